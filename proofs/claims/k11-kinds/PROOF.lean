import PyProof.Rows.All
import Wide.All
import OpenK.AllK
import Wide.FinOn
import PyProof.EqAt
import PyProof.EqKinds
import PyProof.TupleCall
import PyProof.ReprRoads
import HandS.ForMost
import HandS.ForExc
import HandS.Flow
import HandS.Defaults
import HandS.Wide
import HandS.FStr
import HandS.RaiseMore
import HandS.IsInst
import PyProof.ReprBulk
import PyProof.Rows.RegStrFacts
import HandS.Ends
import HandS.Head0
import HandS.Head1
import HandS.Head2
import HandS.HeadEnd
import HandS.HeadHook1
import HandS.HeadHook2
import HandS.Text
import HandS.Codes
import KE.KRevSl
import HandS.Conv
import HandS.SortInts
import HandS.More
import KE.KExcIs
import KE.KIsAll
import HandS.ExcInit
import HandS.ExcField
import HandS.ExcIs
import HandS.ExcOwn
import HandS.TryMany
import HandS.WordsExc
import PySem.Challenge.RW_wanehold_k11_kinds_told
set_option Elab.async false
set_option linter.all false
set_option maxRecDepth 100000
set_option maxHeartbeats 4000000
section
/-! Contracts of defs that also know that no repr is under way (FnG), their calls. -/
namespace Wn
open PySem PySem.Spec PyProof.Rows L2

/-- no repr is under way around -/
def Quiet (A : Around) : Prop := A.guards = some []
theorem Quiet.caller : Quiet callerA := rfl

/-- a def's contract, where no repr is under way -/
structure FnG (P : Program) (w : World) (K : PySem.W.Frag) (mg : Str → Option Value) (base : Heap) (CX : CXT) (k : Nat) (f : Addr) (fd : FuncData) (ps : List Str) (sp : Sp) : Prop where
  len : ∀ vs H Q E, sp vs H Q E → vs.length = ps.length
  run : ∀ (A : Around) (outer : List Env) (s : Shared) (H : Hp) (args : Args) (us : List Value) (vs : List V) (Q : VK) (E : XK),
    Room k A → Quiet A → Env0 P w K mg base A outer s H → BindsTo s fd args (ps.zip us) → Vals vs us → sp vs H Q E →
      codeAny (model P w) A (.call (.ref f) args) (CR CX outer P w H s Q E) s

section
variable {P : Program} {w : World} {K : PySem.W.Frag} {mg : Str → Option Value} {base : Heap} {CX : CXT} {j k : Nat} {f : Addr} {fd : FuncData} {ps : List Str} {sp sp' : Sp}
theorem FnG.mono (F : FnG P w K mg base CX j f fd ps sp) (h : j ≤ k) : FnG P w K mg base CX k f fd ps sp :=
  ⟨F.len, fun A o s H a us vs Q E r q => F.run A o s H a us vs Q E (r.mono h) q⟩
theorem FnG.imp (F : FnG P w K mg base CX k f fd ps sp) (h : ∀ vs H Q E, sp' vs H Q E → sp vs H Q E) : FnG P w K mg base CX k f fd ps sp' :=
  ⟨fun vs H Q E q => F.len vs H Q E (h _ _ _ _ q), fun A o s H a us vs Q E r g e b v q => F.run A o s H a us vs Q E r g e b v (h _ _ _ _ q)⟩
/-- a def of the text keeps its contract, by its body -/
theorem FnG.of {x qual : Str} {params : Arguments} {body : List Stmt} {scope : Scope} {dvs : List V} {kws : List (Str × V)} {N : List Str}
    (F : FunD K x qual params body scope dvs kws f fd) (S : FnScope N ps scope) (len : ∀ vs H Q E, sp vs H Q E → vs.length = ps.length)
    (hbody : ∀ (cdv : Value) (A : Around) (outer : List Env) (s : Shared) (H : Hp) (vs : List V) (Q : VK) (E : XK),
      Room k (A.deeper (envOfC qual scope s.heap.objs.size f cdv)) → Quiet (A.deeper (envOfC qual scope s.heap.objs.size f cdv)) → sp vs H Q E →
      ∃ t, PSs (cxOf CX P w K mg base N qual scope f cdv A outer s H E) body t ∧ t { nx := fun _ H' => Q .non H', rt := Q } (start N vs) H) :
    FnG P w K mg base CX (k + 1) f fd ps sp := by
  obtain ⟨oc, od, dV, kV, doc, pm, an, cdv, ct, osl, rfl, lk, hcd, _, _⟩ := F.ex
  refine ⟨len, fun A outer s H args us vs Q E hr hG e0 hb r hsp => ?_⟩
  have here : ∀ b o, base.get? b = some o → s.heap.get? b = some o := fun b o e => (e0.bs b o e).1
  have KX := e0.mod.kin.keeps here
  have par : ∀ y ∈ ps.zip us, scope.names.lookup y.1 = some .local ∨ (scope.names.lookup y.1 = some .cell ∧ ((cellsFrom (s.heap.objs.size + 1) scope.names []).lookup y.1).isSome = true) := by
    rintro ⟨n, v⟩ hy
    exact (S.par n (List.of_mem_zip hy).1).imp id fun q => ⟨q, PySem.W.cellsFrom_some _ _ _ (.inl q)⟩
  refine codeAny_call_function hr.depth (KX _ _ lk) rfl S.co S.gen rfl (PySem.W.codeRec_of KX hcd) (hb _ _ _ _ ?_)
  refine wpAny_newFunctionEnv_cells S.kind par fun env he s1 x => ?_
  subst he
  refine ⟨(e0.mod.nolimit.keeps here).keeps x.toInCall.keep, codeAny_func ?_⟩
  obtain ⟨t, ht, hq⟩ := hbody cdv A outer s H vs Q E (hr.deeper _) hG hsp
  have I := inv_start (CX := CX) (cd := cdv) (qual := qual) (E := E) S hr.hd e0 (len _ _ _ _ hsp) r x
  refine wpAny_mono (ht.run [] s1 (start N vs) H _ I hq) (fun fl s' hs => ?_) fun e s' hs => hs
  match fl, hs with
  | .ret u, hs =>
    obtain ⟨v, σ', H', J, rv, q⟩ := hs
    exact ⟨v, H', J.os, J.bare, J.base, J.hok, rv, q⟩
  | .next, hs =>
    obtain ⟨σ', H', J, q⟩ := hs
    exact ⟨.non, H', J.os, J.bare, J.base, J.hok, rfl, q⟩
  | .brk, hs => exact hs.elim fun _ z => z.elim fun _ z => z.2.elim
  | .cont, hs => exact hs.elim fun _ z => z.elim fun _ z => z.2.elim
end

/-! ### calls -/
section
variable {X : Cx} {CX : CXT} {k : Nat} {f C : Addr} {fd : FuncData} {ps ks : List Str} {sp : Sp} {dvs : List V} {ds : List Value} {E : XK} {x m : Str} {p pos apos : Pos} {e o : Expr} {es : List Expr} {kws : List Keyword} {ta : TE} {t tk : TA}
  {pins : List (Addr × Obj)} {σ : L2.St} {H : Hp} {s : Shared} {Q : VK} {us ws : List Value} {vs zs : List V}
theorem back_of {r : Result} {s' : Shared} (hx : Passes CX X E) (I : Inv X pins σ H s) (hq : CR CX X.stack X.prog X.w H s Q E r s') :
    (match r with | .ok (.ret u) => EP X pins σ Q u s' | .ok _ => False | .error e => X.xe e s') := by
  cases r with
  | error e => exact hx pins σ H s e s' I hq
  | ok fl => cases fl with
    | ret u => exact I.after hq
    | _ => exact False.elim hq
/-- the callee runs: args the call's, us what is bound, vs their values -/
theorem run_g {args : List Value} {kw : List (Str × Value)} (F : FnG X.prog X.w X.K X.mg X.base CX k f fd ps sp) (hr : Room k X.A) (hG : Quiet X.A) (hx : Passes CX X E) (I : Inv X pins σ H s)
    (hb : BindsTo s fd ⟨args, kw⟩ (ps.zip us)) (r : Vals vs us) (h : sp vs H Q E) : wpAny (model X.prog X.w) X.A (call (.ref f) args kw) (EP X pins σ Q) X.xe s := by
  refine wpAny_call (codeAny_mono (F.run X.A X.stack s H ⟨args, kw⟩ us vs Q E hr hG I.env0 hb r h) fun r s' hq => ?_)
  have b := back_of hx I hq
  cases r with
  | error e => exact b
  | ok fl => cases fl with
    | ret u => exact b
    | _ => exact b.elim
/-- how a call's arguments are bound: us those by place, ws those by keyword (names ks); g puts them in the parameters' order -/
structure Bd (K : PySem.W.Frag) (fd : FuncData) (ps : List Str) (n : Nat) (ks : List Str) (gV : List V → List V → List V) : Prop where
  to : ∀ (s : Shared) (vs zs : List V) (us ws : List Value), K.In s.heap → us.length = n → ws.length = ks.length → Vals vs us → Vals zs ws →
    ∃ bs, BindsTo s fd ⟨us, ks.zip ws⟩ (ps.zip bs) ∧ Vals (gV vs zs) bs
theorem Bd.of_binds {K : PySem.W.Frag} {n : Nat} (b : Binds K fd ps ds) (d : Vals dvs ds) (hn : n + ds.length = ps.length) : Bd K fd ps n [] (fun vs _ => vs ++ dvs) :=
  ⟨fun s vs zs us ws hK hl hw r rz => by
    cases ws with
    | nil => exact ⟨us ++ ds, b s us hK (by rw [List.length_append, hl, hn]), r.append d⟩
    | cons _ _ => cases hw⟩
theorem Bd.of_kbn {K : PySem.W.Frag} {n : Nat} {g : List Value → List Value → List Value} {gV : List V → List V → List V} (b : KBn K fd ps n ks g gV) : Bd K fd ps n ks gV :=
  ⟨fun s vs zs us ws hK hl hw r rz => ⟨_, b.to s us ws hK hl hw, b.rel r rz⟩⟩

def tCl (n m : Nat) (sp : Sp) (gV : List V → List V → List V) (E : XK) (t tk : TA) : TE := fun σ H Q => t σ H fun vs H1 => tk σ H1 fun zs H2 => vs.length = n ∧ zs.length = m ∧ sp (gV vs zs) H2 Q E
variable {n : Nat} {gV : List V → List V → List V}
theorem run_gb (F : FnG X.prog X.w X.K X.mg X.base CX k f fd ps sp) (hr : Room k X.A) (hG : Quiet X.A) (hb : Bd X.K fd ps n ks gV) (hx : Passes CX X E) (I : Inv X pins σ H s)
    (r : Vals vs us) (rz : Vals zs ws) (l1 : vs.length = n) (l2 : zs.length = ks.length) (h : sp (gV vs zs) H Q E) : wpAny (model X.prog X.w) X.A (call (.ref f) us (ks.zip ws)) (EP X pins σ Q) X.xe s := by
  obtain ⟨bs, h1, h2⟩ := hb.to s vs zs us ws I.kIn (r.length.symm.trans l1) (rz.length.symm.trans l2) r rz
  exact run_g F hr hG hx I h1 h2 h
/-- f(e, ..) -/
theorem pg_call (F : FnG X.prog X.w X.K X.mg X.base CX k f fd ps sp) (hr : Room k X.A) (hG : Quiet X.A) (hg : Gl X x) (hm : X.mg x = some (.ref f)) (hk : PySem.W.keepIn X.K (.ref f) = true) (hb : Bd X.K fd ps n [] gV) (hx : Passes CX X E)
    (ha : PA X (e :: es) t) (hdb : (x == ("__debug__" : Str)) = false := by decide) (he : starEach (e :: es) X.env = (false, eval e X.env) :: starEach es X.env := by rfl) (hpl : (backTo pos (starEach es X.env)).any (·.1) = false := by rfl) :
    PE X (.Call (.Name x p) (e :: es) [] pos) (tCl n 0 sp gV E t tNil) := by
  refine ⟨fun pins s σ H Q I h => wpAny_Call_Name_kw (ld_glob I hg hm ?_ hdb)⟩
  refine PySem.W.callWith_K (h₀ := X.base) I.ok.mod.kin hk (thn (ha.run pos pins s σ H _ I h) fun us s1 ⟨vs, H1, I1, r, l1, _, q⟩ => ⟨I1.kIn, ?_⟩) he hpl
  exact run_gb (ks := []) F hr hG hb hx I1 r .nil l1 rfl q
theorem pg_call0 (F : FnG X.prog X.w X.K X.mg X.base CX k f fd ps sp) (hr : Room k X.A) (hG : Quiet X.A) (hg : Gl X x) (hm : X.mg x = some (.ref f)) (hk : PySem.W.keepIn X.K (.ref f) = true) (hb : Bd X.K fd ps 0 [] gV) (hx : Passes CX X E)
    (hdb : (x == ("__debug__" : Str)) = false := by decide) : PE X (.Call (.Name x p) [] [] pos) (tCl 0 0 sp gV E tNil tNil) := by
  refine ⟨fun pins s σ H Q I h => wpAny_Call_Name_kw (ld_glob I hg hm ?_ hdb)⟩
  exact PySem.W.callWith_K0 I.kIn hk (run_gb (ks := []) (us := []) F hr hG hb hx I .nil .nil rfl rfl h.2.2)
/-- f(e, .., k = v, ..) -/
theorem pg_callK (F : FnG X.prog X.w X.K X.mg X.base CX k f fd ps sp) (hr : Room k X.A) (hG : Quiet X.A) (hg : Gl X x) (hm : X.mg x = some (.ref f)) (hk : PySem.W.keepIn X.K (.ref f) = true) (hb : Bd X.K fd ps n ks gV) (hx : Passes CX X E)
    (ha : PA X (e :: es) t) (hkw : PK X kws tk) (hall : (backToKw pos (keywordEach kws X.env)).all (·.1.isSome) = true := by rfl) (hks : (backToKw pos (keywordEach kws X.env)).filterMap (·.1) = ks := by rfl)
    (hdb : (x == ("__debug__" : Str)) = false := by decide) (he : starEach (e :: es) X.env = (false, eval e X.env) :: starEach es X.env := by rfl)
    (hpl : ((backTo pos (starEach (e :: es) X.env)).any (·.1) || (backToKw pos (keywordEach kws X.env)).any (·.1.isNone)) = false := by rfl) :
    PE X (.Call (.Name x p) (e :: es) kws pos) (tCl n ks.length sp gV E t tk) := by
  refine ⟨fun pins s σ H Q I h => wpAny_Call_Name_kw (ld_glob I hg hm ?_ hdb)⟩
  refine PySem.W.callWith_KW (h₀ := X.base) I.ok.mod.kin hk hall (thn (ha.run pos pins s σ H _ I h) fun us s1 ⟨vs, H1, I1, r, q⟩ => ?_) hpl he
  refine thn (hkw.run pos pins s1 σ H1 _ I1 q) fun ws s2 ⟨zs, H2, I2, rz, l1, l2, q2⟩ => ⟨I2.kIn, ?_⟩
  rw [hks]
  exact run_gb F hr hG hb hx I2 r rz l1 l2 q2

/-- o.m(e, ..) of an instance of the class at C -/
def tMt (C : Addr) (m : Str) (n : Nat) (sp : Sp) (gV : List V → List V → List V) (E : XK) (ta : TE) (t : TA) : TE := fun σ H Q => ta σ H fun x H1 => ∃ a dx fs, x = .ref a ∧ H1 a = some (.ins C dx fs) ∧ fs.lookup m = none ∧
  t σ H1 fun vs H2 => vs.length = n ∧ sp (gV (x :: vs) []) H2 Q E
theorem pg_meth {pl : Sem Bool} (he : PE X o ta) (c : Cls X.K C) (hm : Meth X.K C m f) (F : FnG X.prog X.w X.K X.mg X.base CX k f fd ps sp) (hr : Room k X.A) (hG : Quiet X.A) (hb : Bd X.K fd ps (n + 1) [] gV) (hx : Passes CX X E) (ha : PA X (e :: es) t)
    (hst : starEach (e :: es) X.env = (false, eval e X.env) :: starEach es X.env := by rfl) (hpl : (backTo pos (starEach es X.env)).any (·.1) = false := by rfl)
    (ht : eval (.Call (.Attribute o m apos) (e :: es) [] pos) X.env = (do
      let ov ← eval o X.env
      standAt apos.atName
      let (f, first) ← holding [ov] (getMethod ov m pl)
      callWith pos f first (backTo pos (starEach (e :: es) X.env)) (backToKw pos (keywordEach [] X.env))) := by rfl) :
    PE X (.Call (.Attribute o m apos) (e :: es) [] pos) (tMt C m n sp gV E ta t) := by
  refine ⟨fun pins s σ H Q I h => PySem.W.methodCall_KW (pl := pl) (thn (he.run pins s σ H _ I h) fun u s1 ⟨x, H1, I1, rx, a, dx, fs, ex, ea, l, q⟩ => ?_) ht⟩
  subst ex
  obtain rfl : u = Value.ref a := rx
  refine getmeth_ok I1 ea c hm l ?_
  refine PySem.W.callWith_K (first := [.ref a]) (h₀ := X.base) I.ok.mod.kin hm.kp (thn (ha.run pos pins s1 σ H1 _ I1 q) fun us s2 ⟨vs, H2, I2, r, l1, q2⟩ => ⟨I2.kIn, ?_⟩) hst hpl
  exact run_gb (ks := []) (us := .ref a :: us) (vs := .ref a :: vs) F hr hG hb hx I2 (.cons rfl r) .nil (by rw [List.length_cons, l1]) rfl q2
theorem pg_meth0 {pl : Sem Bool} (he : PE X o ta) (c : Cls X.K C) (hm : Meth X.K C m f) (F : FnG X.prog X.w X.K X.mg X.base CX k f fd ps sp) (hr : Room k X.A) (hG : Quiet X.A) (hb : Bd X.K fd ps 1 [] gV) (hx : Passes CX X E)
    (ht : eval (.Call (.Attribute o m apos) [] [] pos) X.env = (do
      let ov ← eval o X.env
      standAt apos.atName
      let (f, first) ← holding [ov] (getMethod ov m pl)
      callWith pos f first (backTo pos (starEach [] X.env)) (backToKw pos (keywordEach [] X.env))) := by rfl) :
    PE X (.Call (.Attribute o m apos) [] [] pos) (tMt C m 0 sp gV E ta tNil) := by
  refine ⟨fun pins s σ H Q I h => PySem.W.methodCall_KW (pl := pl) (thn (he.run pins s σ H _ I h) fun u s1 ⟨x, H1, I1, rx, a, dx, fs, ex, ea, l, q⟩ => ?_) ht⟩
  subst ex
  obtain rfl : u = Value.ref a := rx
  refine getmeth_ok I1 ea c hm l ?_
  exact PySem.W.callWith_K0 (first := [.ref a]) I1.kIn hm.kp (run_gb (ks := []) (us := [.ref a]) (vs := [.ref a]) F hr hG hb hx I1 (.cons rfl .nil) .nil rfl rfl q.2)

/-- C(..): a new instance, then its __init__ -/
def tMk (C : Addr) (n m : Nat) (sp : Sp) (gV : List V → List V → List V) (E : XK) (t tk : TA) : TE := fun σ H Q => t σ H fun vs H1 => tk σ H1 fun zs H2 => vs.length = n ∧ zs.length = m ∧ ∀ x dx, H2 x = none → H2 dx = none → dx ≠ x →
  sp (gV (.ref x :: vs) zs) (upd (upd H2 dx (.own x)) x (.ins C dx [])) (fun v H3 => v = .non ∧ Q (.ref x) H3) E
theorem Quiet.make {A : Around} (h : Quiet A) (C : Addr) (us : List Value) (kw : List (Str × Value)) : Quiet (A.under (.builtin "type.__call__" ⟨.ref C :: us, kw⟩)) := by
  have e : (A.under (.builtin "type.__call__" ⟨.ref C :: us, kw⟩)).guards = A.guards := by
    first | rfl | simp [Around.under, pushGuards, Code.guards, Code.isGuard, guardIds]
  exact e.trans h
theorem run_mk (M : Mk X.K C f) (F : FnG X.prog X.w X.K X.mg X.base CX k f fd ps sp) (hr : Room (k + 1) X.A) (hG : Quiet X.A) (hb : Bd X.K fd ps (n + 1) ks gV) (hx : Passes CX X E) (I : Inv X pins σ H s)
    (r : Vals vs us) (rz : Vals zs ws) (l1 : vs.length = n) (l2 : zs.length = ks.length)
    (h : ∀ x dx, H x = none → H dx = none → dx ≠ x → sp (gV (.ref x :: vs) zs) (upd (upd H dx (.own x)) x (.ins C dx [])) (fun v H2 => v = .non ∧ Q (.ref x) H2) E) :
    wpAny (model X.prog X.w) X.A (call (.ref C) us (ks.zip ws)) (EP X pins σ Q) X.xe s := by
  have hq := h (s.heap.objs.size + 1) s.heap.objs.size (I.hok.fresh (Nat.le_succ _)) (I.hok.fresh (Nat.le_refl _)) (Nat.ne_of_lt (Nat.lt_succ_self _))
  have I2 := Inv.made (C := C) I
  obtain ⟨bs, b1, b2⟩ := hb.to { s with heap := (s.heap.push PySem.W.emptyDict).push (PySem.W.instObj C s.heap.objs.size) } (.ref (s.heap.objs.size + 1) :: vs) zs (.ref (s.heap.objs.size + 1) :: us) ws I2.kIn
    (by rw [List.length_cons, ← r.length, l1]) (rz.length.symm.trans l2) (.cons rfl r) rz
  refine wpAny_call (make_map (f := f) I.kIn M.makes M.init (beq_iff_eq.mp M.fn) (codeAny_mono (F.run _ X.stack _ _ ⟨Value.ref (s.heap.objs.size + 1) :: us, ks.zip ws⟩ bs _ _ E (hr.make C us (ks.zip ws)) (hG.make C us (ks.zip ws))
    (I2.env0.make C us (ks.zip ws)) b1 b2 hq) fun r s' hq' => ?_))
  have b := back_of hx I2 hq'
  cases r with
  | error e => exact b
  | ok fl => cases fl with
    | ret u =>
      obtain ⟨v, H', I3, rv, ev, q3⟩ := b
      subst ev
      exact ⟨rv, ⟨V.ref (s.heap.objs.size + 1), H', I3, rfl, q3⟩⟩
    | _ => exact b.elim
theorem pg_make (M : Mk X.K C f) (F : FnG X.prog X.w X.K X.mg X.base CX k f fd ps sp) (hr : Room (k + 1) X.A) (hG : Quiet X.A) (hg : Gl X x) (hm : X.mg x = some (.ref C)) (hb : Bd X.K fd ps (n + 1) [] gV) (hx : Passes CX X E)
    (ha : PA X (e :: es) t) (hdb : (x == ("__debug__" : Str)) = false := by decide) (he : starEach (e :: es) X.env = (false, eval e X.env) :: starEach es X.env := by rfl) (hpl : (backTo pos (starEach es X.env)).any (·.1) = false := by rfl) :
    PE X (.Call (.Name x p) (e :: es) [] pos) (tMk C n 0 sp gV E t tNil) := by
  refine ⟨fun pins s σ H Q I h => wpAny_Call_Name_kw (ld_glob I hg hm ?_ hdb)⟩
  refine PySem.W.callWith_K (h₀ := X.base) I.ok.mod.kin M.kp (thn (ha.run pos pins s σ H _ I h) fun us s1 ⟨vs, H1, I1, r, l1, _, q⟩ => ⟨I1.kIn, ?_⟩) he hpl
  exact run_mk (ks := []) M F hr hG hb hx I1 r .nil l1 rfl q
theorem pg_makeK (M : Mk X.K C f) (F : FnG X.prog X.w X.K X.mg X.base CX k f fd ps sp) (hr : Room (k + 1) X.A) (hG : Quiet X.A) (hg : Gl X x) (hm : X.mg x = some (.ref C)) (hb : Bd X.K fd ps (n + 1) ks gV) (hx : Passes CX X E)
    (ha : PA X (e :: es) t) (hkw : PK X kws tk) (hall : (backToKw pos (keywordEach kws X.env)).all (·.1.isSome) = true := by rfl) (hks : (backToKw pos (keywordEach kws X.env)).filterMap (·.1) = ks := by rfl)
    (hdb : (x == ("__debug__" : Str)) = false := by decide) (he : starEach (e :: es) X.env = (false, eval e X.env) :: starEach es X.env := by rfl)
    (hpl : ((backTo pos (starEach (e :: es) X.env)).any (·.1) || (backToKw pos (keywordEach kws X.env)).any (·.1.isNone)) = false := by rfl) :
    PE X (.Call (.Name x p) (e :: es) kws pos) (tMk C n ks.length sp gV E t tk) := by
  refine ⟨fun pins s σ H Q I h => wpAny_Call_Name_kw (ld_glob I hg hm ?_ hdb)⟩
  refine PySem.W.callWith_KW (h₀ := X.base) I.ok.mod.kin M.kp hall (thn (ha.run pos pins s σ H _ I h) fun us s1 ⟨vs, H1, I1, r, q⟩ => ?_) hpl he
  refine thn (hkw.run pos pins s1 σ H1 _ I1 q) fun ws s2 ⟨zs, H2, I2, rz, l1, l2, q2⟩ => ⟨I2.kIn, ?_⟩
  rw [hks]
  exact run_mk M F hr hG hb hx I2 r rz l1 l2 q2
end

/-! ### repr of data -/
section
variable {X : Cx}
def rRepr (K : PySem.W.Frag) : List V → Hp → VK → Prop := fun xs H Q => ∃ (a : Addr) (d : PyData), xs = [.ref a] ∧ Dp K H (.ref a) d ∧ d.showable = true ∧ d.hasDict = false ∧ d.depth ≤ 40 ∧ d.shown.length ≤ sizeLine ∧ Q (.str d.shown) H
theorem cr_repr {k : Nat} (hr : Room k X.A) (hG : Quiet X.A) : CallR X (.builtin "repr") (rRepr X.K) := by
  intro pins s σ H xs us Q I r h
  obtain ⟨a, d, rfl, hd, hs, hn, hp, hz, q⟩ := h
  obtain ⟨u, rfl, ru⟩ := vals1 r
  obtain ⟨as, rd⟩ := Dp.reads I d (.ref a) u hd ru
  cases (show u = Value.ref a from ru)
  have hu := hr.units
  refine repr_of_reads' rd hs (fun z => by rw [hn] at z; cases z) hG (by omega) (fun b o e => e) (fun h' u tk hk => ?_) hz
  exact ⟨.str d.shown, H, I.kept hk, ⟨u, rfl⟩, q⟩
theorem cr_repr_str : CallR X (.builtin "repr") (fun xs H Q => ∃ x : Str, xs = [.str x] ∧ (reprText x).length ≤ sizeLine ∧ Q (.str (reprText x)) H) := by
  intro pins s σ H xs us Q I r h
  obtain ⟨x, rfl, hz, q⟩ := h
  obtain ⟨u, rfl, t, rfl⟩ := vals1 r
  exact PySem.P.repr_of_str ⟨.str _, H, I.tok _, ⟨_, rfl⟩, q⟩ hz
theorem cr_repr_bool : CallR X (.builtin "repr") (fun xs H Q => ∃ b : Bool, xs = [.bl b] ∧ Q (.str (if b then "True" else "False")) H) := by
  intro pins s σ H xs us Q I r h
  obtain ⟨x, rfl, q⟩ := h
  obtain ⟨u, rfl, rfl⟩ := vals1 r
  exact PySem.P.repr_of_bool ⟨.str _, H, I.tok _, ⟨_, rfl⟩, q⟩
theorem cr_repr_none : CallR X (.builtin "repr") (fun xs H Q => xs = [.non] ∧ Q (.str "None") H) := by
  intro pins s σ H xs us Q I r h
  obtain ⟨rfl, q⟩ := h
  obtain ⟨u, rfl, rfl⟩ := vals1 r
  exact PySem.P.repr_of_none ⟨.str _, H, I.tok _, ⟨_, rfl⟩, q⟩
end
end Wn
end

section
/-! Values as trees (D), what of the heap they stand for (Dt), and a logic over trees alone (EvD, Blk). -/
namespace Wn
open PySem PySem.Spec PyProof.Rows L2

inductive D where
  | non | bl (b : Bool) | int (i : Int) | str (x : Str)
  | lst (xs : List D) | tup (xs : List D)
  | obj (C : Addr) (fs : List (Str × D))
  | adr (a : Addr) | ty (n : String)
  | dct (fs : List (Str × D)) | pin (a : Addr) (d : D)

mutual
/-- v stands for the tree d in H, by objects outside of M -/
inductive Dt (K : PySem.W.Frag) (M : Addr → Prop) (H : Hp) : V → D → Prop
  | non : Dt K M H .non .non
  | bl (b : Bool) : Dt K M H (.bl b) (.bl b)
  | int (i : Int) : Dt K M H (.int i) (.int i)
  | str (x : Str) : Dt K M H (.str x) (.str x)
  | adr (a : Addr) : Dt K M H (.ref a) (.adr a)
  | ty (n : String) : Dt K M H (.ty n) (.ty n)
  | lst {a : Addr} {vs : List V} {ds : List D} : ¬ M a → H a = some (.lst vs) → DtL K M H vs ds → Dt K M H (.ref a) (.lst ds)
  | tup {a : Addr} {vs : List V} {ds : List D} : ¬ M a → Rd H a (.tup vs) → DtL K M H vs ds → Dt K M H (.ref a) (.tup ds)
  | ktup {a : Addr} {vs : List V} {ds : List D} : (∀ H', SqT K H' a vs) → DtL K M H vs ds → Dt K M H (.ref a) (.tup ds)
  | obj {a C dx : Addr} {fs : List (Str × V)} {fd : List (Str × D)} : ¬ M a → H a = some (.ins C dx fs) → DtF K M H fs fd → Dt K M H (.ref a) (.obj C fd)
  | dct {a : Addr} {fs : List (Str × V)} {fd : List (Str × D)} : ¬ M a → H a = some (.dK (fs.map fun p => (.inr p.1, p.2))) → DtF K M H fs fd → Dt K M H (.ref a) (.dct fd)
  | pin {a : Addr} {d : D} : Dt K M H (.ref a) d → Dt K M H (.ref a) (.pin a d)
inductive DtL (K : PySem.W.Frag) (M : Addr → Prop) (H : Hp) : List V → List D → Prop
  | nil : DtL K M H [] []
  | cons {v : V} {d : D} {vs : List V} {ds : List D} : Dt K M H v d → DtL K M H vs ds → DtL K M H (v :: vs) (d :: ds)
inductive DtF (K : PySem.W.Frag) (M : Addr → Prop) (H : Hp) : List (Str × V) → List (Str × D) → Prop
  | nil : DtF K M H [] []
  | cons {f : Str} {v : V} {d : D} {fs : List (Str × V)} {fd : List (Str × D)} : Dt K M H v d → DtF K M H fs fd → DtF K M H ((f, v) :: fs) ((f, d) :: fd)
end

/-- what stands outside of M stays -/
def Ext (M : Addr → Prop) (H H' : Hp) : Prop := ∀ a o, ¬ M a → H a = some o → H' a = some o
theorem Ext.refl (M : Addr → Prop) (H : Hp) : Ext M H H := fun _ _ _ h => h
theorem Ext.trans {M : Addr → Prop} {H H1 H2 : Hp} (a : Ext M H H1) (b : Ext M H1 H2) : Ext M H H2 := fun x o n h => b x o n (a x o n h)
theorem Ext.of_same {M : Addr → Prop} {H H' : Hp} (s : Same H H') : Ext M H H' := fun a o _ h => s a o h
theorem Ext.mono {M N : Addr → Prop} {H H' : Hp} (e : Ext M H H') (h : ∀ a, M a → N a) : Ext N H H' := fun a o n => e a o fun z => n (h a z)
theorem same_new {H : Hp} {p : Addr} {o : HO} (h : H p = none) : Same H (upd H p o) := fun a u e => by
  rw [upd_ne (ne_of_none e h)]
  exact e

section
variable {K : PySem.W.Frag} {M N : Addr → Prop} {H H' : Hp}
theorem rd_ext {a : Addr} {u : HO} (e : Ext M H H') (n : ¬ M a) (h : Rd H a u) : Rd H' a u := by
  rcases h with h | ⟨o, h⟩
  · exact .inl (e _ _ n h)
  · exact .inr ⟨o, e _ _ n h⟩
theorem rd_ne {p a : Addr} {u : HO} (hp : H p = none) (h : Rd H a u) : a ≠ p := fun e => by
  subst e
  rcases h with h | ⟨o, h⟩
  · rw [hp] at h; cases h
  · rw [hp] at h; cases h
mutual
theorem Dt.to (hn : ∀ a, N a → M a) (e : Ext M H H') : ∀ {v : V} {d : D}, Dt K M H v d → Dt K N H' v d
  | _, _, .non => .non
  | _, _, .bl b => .bl b
  | _, _, .int i => .int i
  | _, _, .str x => .str x
  | _, _, .adr a => .adr a
  | _, _, .ty n => .ty n
  | _, _, .lst n h l => .lst (fun z => n (hn _ z)) (e _ _ n h) (DtL.to hn e l)
  | _, _, .tup n h l => .tup (fun z => n (hn _ z)) (rd_ext e n h) (DtL.to hn e l)
  | _, _, .ktup h l => .ktup h (DtL.to hn e l)
  | _, _, .obj n h l => .obj (fun z => n (hn _ z)) (e _ _ n h) (DtF.to hn e l)
  | _, _, .dct n h l => .dct (fun z => n (hn _ z)) (e _ _ n h) (DtF.to hn e l)
  | _, _, .pin h => .pin (Dt.to hn e h)
theorem DtL.to (hn : ∀ a, N a → M a) (e : Ext M H H') : ∀ {vs : List V} {ds : List D}, DtL K M H vs ds → DtL K N H' vs ds
  | _, _, .nil => .nil
  | _, _, .cons h t => .cons (Dt.to hn e h) (DtL.to hn e t)
theorem DtF.to (hn : ∀ a, N a → M a) (e : Ext M H H') : ∀ {vs : List (Str × V)} {ds : List (Str × D)}, DtF K M H vs ds → DtF K N H' vs ds
  | _, _, .nil => .nil
  | _, _, .cons h t => .cons (Dt.to hn e h) (DtF.to hn e t)
end
theorem Dt.ext {v : V} {d : D} (h : Dt K M H v d) (e : Ext M H H') : Dt K M H' v d := h.to (fun _ z => z) e
theorem DtL.ext {v : List V} {d : List D} (h : DtL K M H v d) (e : Ext M H H') : DtL K M H' v d := h.to (fun _ z => z) e
theorem DtF.ext {v : List (Str × V)} {d : List (Str × D)} (h : DtF K M H v d) (e : Ext M H H') : DtF K M H' v d := h.to (fun _ z => z) e
theorem Dt.weak {v : V} {d : D} (h : Dt K M H v d) (hn : ∀ a, N a → M a) : Dt K N H v d := h.to hn (Ext.refl _ _)
/-! a new address is in no tree's footprint -/
mutual
theorem Dt.plus {p : Addr} (hp : H p = none) : ∀ {v : V} {d : D}, Dt K M H v d → Dt K (fun a => M a ∨ a = p) H v d
  | _, _, .non => .non
  | _, _, .bl b => .bl b
  | _, _, .int i => .int i
  | _, _, .str x => .str x
  | _, _, .adr a => .adr a
  | _, _, .ty n => .ty n
  | _, _, .lst n h l => .lst (fun z => z.elim n (rd_ne hp (.inl h))) h (DtL.plus hp l)
  | _, _, .tup n h l => .tup (fun z => z.elim n (rd_ne hp h)) h (DtL.plus hp l)
  | _, _, .ktup h l => .ktup h (DtL.plus hp l)
  | _, _, .obj n h l => .obj (fun z => z.elim n (rd_ne hp (.inl h))) h (DtF.plus hp l)
  | _, _, .dct n h l => .dct (fun z => z.elim n (rd_ne hp (.inl h))) h (DtF.plus hp l)
  | _, _, .pin h => .pin (Dt.plus hp h)
theorem DtL.plus {p : Addr} (hp : H p = none) : ∀ {vs : List V} {ds : List D}, DtL K M H vs ds → DtL K (fun a => M a ∨ a = p) H vs ds
  | _, _, .nil => .nil
  | _, _, .cons h t => .cons (Dt.plus hp h) (DtL.plus hp t)
theorem DtF.plus {p : Addr} (hp : H p = none) : ∀ {vs : List (Str × V)} {ds : List (Str × D)}, DtF K M H vs ds → DtF K (fun a => M a ∨ a = p) H vs ds
  | _, _, .nil => .nil
  | _, _, .cons h t => .cons (Dt.plus hp h) (DtF.plus hp t)
end
end
end Wn
end

section
/-! Contracts over trees (FSpec), environments of trees, expressions (EvD), statements (Blk). -/
namespace Wn
open PySem PySem.Spec PyProof.Rows L2

/-- what a callee may change (B), what holds of it (I) -/
structure Mode where
  B : Addr → Prop
  I : Hp → Prop
  al : ∀ H a, I H → B a → H a ≠ none
  st : ∀ H0 H1 H2, I H0 → I H1 → (∀ a, H0 a ≠ none → H2 a = H1 a) → I H2
def pureM : Mode := ⟨fun _ => False, fun _ => True, fun _ _ _ h => h.elim, fun _ _ _ _ _ _ => trivial⟩

/-- a raised exception: its class, its fields -/
abbrev Ex := Addr → List (Str × D) → Prop
abbrev FSpec := List D → (D → Prop) → Ex → Prop
def noX : Ex := fun _ _ => False

def TakesX (K : PySem.W.Frag) (m : Mode) (M0 : Addr → Prop) (H0 : Hp) (X : Ex) (E : XK) : Prop := ∀ C fs H', X C fs → Ext m.B H0 H' → m.I H' →
  (∀ d fv, H' d = some (.xd fv) → H0 d = none → DtF K M0 H' fv fs → fs ≠ [] → E (.ref C) (some d) H') ∧ (fs = [] → E (.ref C) none H')
theorem TakesX.no {K : PySem.W.Frag} {m : Mode} {M0 : Addr → Prop} {H0 : Hp} {E : XK} : TakesX K m M0 H0 noX E := fun _ _ _ h => h.elim

/-- a contract over trees, as a def's promise -/
def lift (K : PySem.W.Frag) (m : Mode) (F : FSpec) : Sp := fun vs H Q E => ∃ (M : Addr → Prop) (ds : List D) (X : Ex) (Φ : D → Prop), (∀ a, m.B a → M a) ∧ (∀ a, M a → H a ≠ none) ∧ DtL K M H vs ds ∧ m.I H ∧ TakesX K m M H X E ∧
  F ds Φ X ∧ ∀ d v H', Φ d → Ext m.B H H' → m.I H' → Dt K M H' v d → Q v H'
theorem DtL.length {K : PySem.W.Frag} {M : Addr → Prop} {H : Hp} : ∀ {vs : List V} {ds : List D}, DtL K M H vs ds → vs.length = ds.length
  | _, _, .nil => rfl
  | _, _, .cons _ t => congrArg (· + 1) (DtL.length t)
theorem DtL.append {K : PySem.W.Frag} {M : Addr → Prop} {H : Hp} : ∀ {vs us : List V} {ds es : List D}, DtL K M H vs ds → DtL K M H us es → DtL K M H (vs ++ us) (ds ++ es)
  | _, _, _, _, .nil, h => h
  | _, _, _, _, .cons a t, h => .cons a (t.append h)
theorem DtL.get {K : PySem.W.Frag} {M : Addr → Prop} {H : Hp} : ∀ {vs : List V} {ds : List D} {i : Nat} {d : D}, DtL K M H vs ds → ds[i]? = some d → ∃ v, vs[i]? = some v ∧ Dt K M H v d
  | _, _, _, _, .nil, e => by simp at e
  | _, _, 0, _, .cons h _, e => by simp at e; subst e; exact ⟨_, rfl, h⟩
  | _, _, i + 1, _, .cons _ t, e => by
    obtain ⟨v, h1, h2⟩ := DtL.get (i := i) t (by simpa using e)
    exact ⟨v, by simpa using h1, h2⟩
theorem lift_len {K : PySem.W.Frag} {m : Mode} {F : FSpec} {n : Nat} (h : ∀ ds Φ X, F ds Φ X → ds.length = n) : ∀ vs H Q E, lift K m F vs H Q E → vs.length = n :=
  fun vs H Q E ⟨M, ds, X, _, _, _, d, _, _, f, _⟩ => d.length.trans (h _ _ _ f)

/-- a slot: nothing known; a tree; a list of one's own, under way; an object of one's own, under way -/
inductive Sl where
  | no | d (x : D) | own (xs : List D) | new (C : Addr) (fs : List (Str × D))
structure Ctx where
  K : PySem.W.Frag
  m : Mode
  M0 : Addr → Prop
  H0 : Hp
  X : Ex
  E : XK
  nw : Prop
structure Ctx.Ok (C : Ctx) : Prop where
  b0 : ∀ a, C.m.B a → C.M0 a
  al : ∀ a, C.M0 a → C.H0 a ≠ none
  i0 : C.m.I C.H0
  tx : TakesX C.K C.m C.M0 C.H0 C.X C.E
def SlOk (C : Ctx) (M : Addr → Prop) (H : Hp) (v : Option V) : Sl → Prop
  | .no => True
  | .d x => ∃ u, v = some u ∧ Dt C.K M H u x
  | .own xs => ∃ l vs, v = some (.ref l) ∧ M l ∧ C.H0 l = none ∧ H l = some (.lst vs) ∧ DtL C.K M H vs xs
  | .new c fs => C.nw ∧ ∃ l dx fv, v = some (.ref l) ∧ M l ∧ C.m.B l ∧ H l = some (.ins c dx fv) ∧ DtF C.K M H fv fs
def Sl.mut : Sl → Prop
  | .own _ => True
  | .new _ _ => True
  | _ => False
structure Env (C : Ctx) (fz : List (V × D)) (M : Addr → Prop) (δ : List Sl) (σ : L2.St) (H : Hp) : Prop where
  ok : C.Ok
  ln : σ.length = δ.length
  sl : ∀ (i : Nat) s, δ[i]? = some s → ∃ v, σ[i]? = some v ∧ SlOk C M H v s
  fzs : ∀ p ∈ fz, Dt C.K M H p.1 p.2
  inj : ∀ (i j : Nat) s t l, δ[i]? = some s → δ[j]? = some t → s.mut → t.mut → σ[i]? = some (some (.ref l)) → σ[j]? = some (some (.ref l)) → i = j
  m0 : ∀ a, C.M0 a → M a
  al : ∀ a, M a → H a ≠ none
  ext : Ext C.m.B C.H0 H
  inv : C.m.I H

section
variable {C : Ctx} {fz : List (V × D)} {M N : Addr → Prop} {δ : List Sl} {σ : L2.St} {H H' : Hp}
theorem Env.b (e : Env C fz M δ σ H) : ∀ a, C.m.B a → M a := fun a h => e.m0 a (e.ok.b0 a h)
theorem Env.old (e : Env C fz M δ σ H) {a : Addr} (h : C.H0 a ≠ none) : H a ≠ none := fun z => by
  by_cases b : C.m.B a
  · exact C.m.al H a e.inv b z
  · cases q : C.H0 a with
    | none => exact h q
    | some o => rw [e.ext a o b q] at z; cases z
theorem Env.fresh (e : Env C fz M δ σ H) {p : Addr} (h : H p = none) : C.H0 p = none := Classical.byContradiction fun z => e.old z h
theorem Env.nm (e : Env C fz M δ σ H) {p : Addr} (h : H p = none) : ¬ M p := fun z => e.al p z h
theorem Env.nb (e : Env C fz M δ σ H) {p : Addr} (h : C.H0 p = none) : ¬ C.m.B p := fun z => e.ok.al p (e.ok.b0 p z) h
/-- the heap grows, or changes within B, B's promise kept -/
theorem SlOk.go {v : Option V} {s : Sl} (e : Ext C.m.B H H') (hb : ∀ a, C.m.B a → M a) (hN : ∀ l, C.H0 l = none → ¬ C.m.B l) (hnw : C.nw → Same H H') (h : SlOk C M H v s) : SlOk C M H' v s := by
  cases s with
  | no => trivial
  | d x =>
    obtain ⟨u, h1, h2⟩ := h
    exact ⟨u, h1, h2.ext (e.mono hb)⟩
  | own xs =>
    obtain ⟨l, vs, h1, h2, h3, h4, h5⟩ := h
    exact ⟨l, vs, h1, h2, h3, e l _ (hN l h3) h4, h5.ext (e.mono hb)⟩
  | new c fs =>
    obtain ⟨hw, l, dx, fv, h1, h2, h3, h4, h5⟩ := h
    exact ⟨hw, l, dx, fv, h1, h2, h3, hnw hw _ _ h4, h5.ext (e.mono hb)⟩
theorem Env.go (en : Env C fz M δ σ H) (e : Ext C.m.B H H') (i : C.m.I H') (hnw : C.nw → Same H H') : Env C fz M δ σ H' where
  ok := en.ok
  ln := en.ln
  sl := fun i s h => by
    obtain ⟨v, h1, h2⟩ := en.sl i s h
    exact ⟨v, h1, h2.go e en.b (fun l z => en.nb z) hnw⟩
  fzs := fun p h => (en.fzs p h).ext (e.mono en.b)
  inj := en.inj
  m0 := en.m0
  al := fun a h z => by
    by_cases b : C.m.B a
    · exact C.m.al H' a i b z
    · cases q : H a with
      | none => exact en.al a h q
      | some o => rw [e a o b q] at z; cases z
  ext := en.ext.trans e
  inv := i
theorem Env.same (en : Env C fz M δ σ H) (s : Same H H') : Env C fz M δ σ H' :=
  en.go (.of_same s) (C.m.st C.H0 H H' en.ok.i0 en.inv fun a h => by
    cases q : H a with
    | none => exact absurd q (en.old h)
    | some o => exact s a o q) fun _ => s
theorem Env.mext (en : Env C fz M δ σ H) (e : Ext C.m.B H H') : Ext M H H' := e.mono en.b

/-! ### slots -/
theorem lt_of_some {α : Type} {l : List α} {i : Nat} {x : α} (h : l[i]? = some x) : i < l.length := (List.getElem?_eq_some_iff.mp h).1
theorem set_cases {α : Type} {l : List α} {i j : Nat} {x y : α} (h : (l.set i x)[j]? = some y) : (j = i ∧ y = x) ∨ (j ≠ i ∧ l[j]? = some y) := by
  by_cases e : j = i
  · subst e
    rw [List.getElem?_set_self (by have := lt_of_some h; rwa [List.length_set] at this)] at h
    exact .inl ⟨rfl, (Option.some.inj h).symm⟩
  · rw [List.getElem?_set_ne (Ne.symm e)] at h
    exact .inr ⟨e, h⟩
/-- a slot is set to a value that nobody else holds under way -/
theorem Env.put {i : Nat} {v : Option V} {s : Sl} (en : Env C fz M δ σ H) (hs : i < δ.length → SlOk C M H v s) (hm : s.mut → ∀ (j : Nat) t l, j ≠ i → δ[j]? = some t → t.mut → v = some (.ref l) → σ[j]? ≠ some (some (.ref l))) : Env C fz M (δ.set i s) (σ.set i v) H where
  ok := en.ok
  ln := by rw [List.length_set, List.length_set]; exact en.ln
  sl := fun j t h => by
    rcases set_cases h with ⟨rfl, rfl⟩ | ⟨n, h⟩
    · have hl := lt_of_some h
      rw [List.length_set] at hl
      exact ⟨v, List.getElem?_set_self (by rw [en.ln]; exact hl), hs hl⟩
    · obtain ⟨u, h1, h2⟩ := en.sl j t h
      exact ⟨u, by rw [List.getElem?_set_ne (Ne.symm n)]; exact h1, h2⟩
  fzs := en.fzs
  inj := fun j k s1 t1 l h1 h2 m1 m2 e1 e2 => by
    rcases set_cases h1 with ⟨a1, b1⟩ | ⟨n1, g1⟩
    · rcases set_cases h2 with ⟨a2, b2⟩ | ⟨n2, g2⟩
      · rw [a1, a2]
      · rw [List.getElem?_set_ne (Ne.symm n2)] at e2
        rw [a1, List.getElem?_set_self (by have := lt_of_some e1; rw [List.length_set] at this; exact this)] at e1
        rw [b1] at m1
        exact absurd e2 (hm m1 k t1 l n2 g2 m2 (Option.some.inj e1))
    · rcases set_cases h2 with ⟨a2, b2⟩ | ⟨n2, g2⟩
      · rw [List.getElem?_set_ne (Ne.symm n1)] at e1
        rw [a2, List.getElem?_set_self (by have := lt_of_some e2; rw [List.length_set] at this; exact this)] at e2
        rw [b2] at m2
        exact absurd e1 (hm m2 j s1 l n1 g1 m1 (Option.some.inj e2))
      · rw [List.getElem?_set_ne (Ne.symm n1)] at e1
        rw [List.getElem?_set_ne (Ne.symm n2)] at e2
        exact en.inj j k s1 t1 l g1 g2 m1 m2 e1 e2
  m0 := en.m0
  al := en.al
  ext := en.ext
  inv := en.inv
theorem Env.putD {i : Nat} {u : V} {x : D} (en : Env C fz M δ σ H) (h : Dt C.K M H u x) : Env C fz M (δ.set i (.d x)) (σ.set i (some u)) H := en.put (fun _ => ⟨u, rfl, h⟩) fun z => z.elim
theorem Env.putNo {i : Nat} {v : Option V} (en : Env C fz M δ σ H) : Env C fz M (δ.set i .no) (σ.set i v) H := en.put (fun _ => trivial) fun z => z.elim
/-- another slot's reading of a list under way of one's own -/
theorem Env.mref (en : Env C fz M δ σ H) {i : Nat} {s : Sl} (h : δ[i]? = some s) (m : s.mut) : ∃ l, σ[i]? = some (some (.ref l)) ∧ M l := by
  obtain ⟨v, h1, h2⟩ := en.sl i s h
  cases s with
  | no => exact m.elim
  | d x => exact m.elim
  | own xs =>
    obtain ⟨l, vs, rfl, h3, _⟩ := h2
    exact ⟨l, h1, h3⟩
  | new c fs =>
    obtain ⟨_, l, dx, fv, rfl, h3, _⟩ := h2
    exact ⟨l, h1, h3⟩
/-- M with a new address -/
theorem Env.plus {p : Addr} {o : HO} (en : Env C fz M δ σ H) (hp : H p = none) (s : Same H H') (hp' : H' p = some o) : Env C fz (fun a => M a ∨ a = p) δ σ H' where
  ok := en.ok
  ln := en.ln
  sl := fun i t h => by
    obtain ⟨v, h1, h2⟩ := en.sl i t h
    refine ⟨v, h1, ?_⟩
    cases t with
    | no => trivial
    | d x =>
      obtain ⟨u, q1, q2⟩ := h2
      exact ⟨u, q1, (q2.plus hp).ext (.of_same s)⟩
    | own xs =>
      obtain ⟨l, vs, q1, q2, q3, q4, q5⟩ := h2
      exact ⟨l, vs, q1, .inl q2, q3, s _ _ q4, (q5.plus hp).ext (.of_same s)⟩
    | new c fs =>
      obtain ⟨hw, l, dx, fv, q1, q2, q3, q4, q5⟩ := h2
      exact ⟨hw, l, dx, fv, q1, .inl q2, q3, s _ _ q4, (q5.plus hp).ext (.of_same s)⟩
  fzs := fun p h => ((en.fzs p h).plus hp).ext (.of_same s)
  inj := en.inj
  m0 := fun a h => .inl (en.m0 a h)
  al := fun a h => by
    rcases h with h | h
    · exact (en.same s).al a h
    · rw [h, hp']; exact fun z => by cases z
  ext := (en.same s).ext
  inv := (en.same s).inv
/-- M without an address that no slot has under way -/
theorem Env.less (en : Env C fz M δ σ H) (hn : ∀ a, N a → M a) (h0 : ∀ a, C.M0 a → N a) (hs : ∀ (i : Nat) s l, δ[i]? = some s → s.mut → σ[i]? = some (some (.ref l)) → N l) : Env C fz N δ σ H where
  ok := en.ok
  ln := en.ln
  sl := fun i t h => by
    obtain ⟨v, h1, h2⟩ := en.sl i t h
    refine ⟨v, h1, ?_⟩
    cases t with
    | no => trivial
    | d x =>
      obtain ⟨u, q1, q2⟩ := h2
      exact ⟨u, q1, q2.weak hn⟩
    | own xs =>
      obtain ⟨l, vs, q1, q2, q3, q4, q5⟩ := h2
      subst q1
      exact ⟨l, vs, rfl, hs i _ l h trivial h1, q3, q4, q5.to hn (Ext.refl _ _)⟩
    | new c fs =>
      obtain ⟨hw, l, dx, fv, q1, q2, q3, q4, q5⟩ := h2
      subst q1
      exact ⟨hw, l, dx, fv, rfl, hs i _ l h trivial h1, q3, q4, q5.to hn (Ext.refl _ _)⟩
  fzs := fun p h => (en.fzs p h).weak hn
  inj := en.inj
  m0 := h0
  al := fun a h => en.al a (hn a h)
  ext := en.ext
  inv := en.inv
end

/-! ### expressions -/
section
variable (C : Ctx)
def EvD (te : TE) (δ : List Sl) (Φ : D → Prop) : Prop := ∀ (fz : List (V × D)) (M : Addr → Prop) (σ : L2.St) (H : Hp), Env C fz M δ σ H → ∀ Q : VK, (∀ d v H', Φ d → Env C fz M δ σ H' → Ext C.m.B H H' → Dt C.K M H' v d → Q v H') → te σ H Q
def EvA (ta : TA) (δ : List Sl) (Φ : List D → Prop) : Prop := ∀ (fz : List (V × D)) (M : Addr → Prop) (σ : L2.St) (H : Hp), Env C fz M δ σ H → ∀ Q : List V → Hp → Prop, (∀ ds vs H', Φ ds → Env C fz M δ σ H' → Ext C.m.B H H' → DtL C.K M H' vs ds → Q vs H') → ta σ H Q
def EvT (tt : TT) (δ : List Sl) (Φ : Bool → Prop) : Prop := ∀ (fz : List (V × D)) (M : Addr → Prop) (σ : L2.St) (H : Hp), Env C fz M δ σ H → ∀ Q : Bool → Hp → Prop, (∀ b H', Φ b → Env C fz M δ σ H' → Ext C.m.B H H' → Q b H') → tt σ H Q
/-- a new list -/
def EvN (te : TE) (δ : List Sl) (Φ : List D → Prop) : Prop := ∀ (fz : List (V × D)) (M : Addr → Prop) (σ : L2.St) (H : Hp), Env C fz M δ σ H → ∀ Q : VK,
  (∀ xs p vs H', Φ xs → H p = none → Env C fz (fun a => M a ∨ a = p) δ σ H' → Ext C.m.B H H' → H' p = some (.lst vs) → DtL C.K (fun a => M a ∨ a = p) H' vs xs → Q (.ref p) H') → te σ H Q
def EvO (to : TO) (δ : List Sl) (Φ : Option Int → Prop) : Prop := ∀ (fz : List (V × D)) (M : Addr → Prop) (σ : L2.St) (H : Hp), Env C fz M δ σ H → ∀ Q : Option Int → Hp → Prop, (∀ b H', Φ b → Env C fz M δ σ H' → Ext C.m.B H H' → Q b H') → to σ H Q
end
/-- an operation by values, over trees -/
def RD (K : PySem.W.Frag) (r : R2) (a b : D) (Φ : D → Prop) : Prop := ∀ (M : Addr → Prop) (x y : V) (H : Hp), (∀ a, M a → H a ≠ none) → Dt K M H x a → Dt K M H y b → ∀ Q : VK, (∀ d v H', Φ d → Same H H' → Dt K M H' v d → Q v H') → r x y H Q
def RU (K : PySem.W.Frag) (r : V → Hp → VK → Prop) (a : D) (Φ : D → Prop) : Prop := ∀ (M : Addr → Prop) (x : V) (H : Hp), (∀ a, M a → H a ≠ none) → Dt K M H x a → ∀ Q : VK, (∀ d v H', Φ d → Same H H' → Dt K M H' v d → Q v H') → r x H Q
def RC (K : PySem.W.Frag) (r : List V → Hp → VK → Prop) (as : List D) (Φ : D → Prop) : Prop := ∀ (M : Addr → Prop) (xs : List V) (H : Hp), (∀ a, M a → H a ≠ none) → DtL K M H xs as → ∀ Q : VK, (∀ d v H', Φ d → Same H H' → Dt K M H' v d → Q v H') → r xs H Q

section
variable {C : Ctx} {δ : List Sl} {te ta tb tc : TE} {tt tu : TT} {tr : TA} {Φ Ψ : D → Prop}
theorem EvD.mono (h : EvD C te δ Φ) (i : ∀ d, Φ d → Ψ d) : EvD C te δ Ψ := fun fz M σ H en Q k => h fz M σ H en Q fun d v H' p => k d v H' (i d p)
theorem ev_var {i : Nat} {x : D} (h : δ[i]? = some (.d x)) (q : Φ x) : EvD C (tVar i) δ Φ := fun fz M σ H en Q k => by
  obtain ⟨v, h1, u, rfl, h2⟩ := en.sl i _ h
  exact ⟨u, h1, k x u H q en (Ext.refl _ _) h2⟩
theorem ev_int {i : Int} (q : Φ (.int i)) : EvD C (tC (.int i)) δ Φ := fun fz M σ H en Q k => k _ _ H q en (Ext.refl _ _) (.int i)
theorem ev_str {x : Str} (q : Φ (.str x)) : EvD C (tC (.str x)) δ Φ := fun fz M σ H en Q k => k _ _ H q en (Ext.refl _ _) (.str x)
theorem ev_bl {b : Bool} (q : Φ (.bl b)) : EvD C (tC (.bl b)) δ Φ := fun fz M σ H en Q k => k _ _ H q en (Ext.refl _ _) (.bl b)
theorem ev_non (q : Φ .non) : EvD C (tC .non) δ Φ := fun fz M σ H en Q k => k _ _ H q en (Ext.refl _ _) .non
/-- a constant tuple of the module -/
theorem ev_ktup {a : Addr} {vs : List V} {ds : List D} (h : ∀ H', SqT C.K H' a vs) (hd : ∀ M H, DtL C.K M H vs ds) (q : Φ (.tup ds)) : EvD C (tC (.ref a)) δ Φ := fun fz M σ H en Q k => k _ _ H q en (Ext.refl _ _) (.ktup h (hd M H))
theorem ev_op {r : R2} (h : EvD C ta δ fun a => EvD C tb δ fun b => RD C.K r a b Φ) : EvD C (tOp r ta tb) δ Φ := fun fz M σ H en Q k =>
  h fz M σ H en _ fun a x H1 h1 e1 x1 d1 => h1 fz M σ H1 e1 _ fun b y H2 h2 e2 x2 d2 => h2 M x y H2 e2.al (d1.ext (x2.mono e2.b)) d2 Q fun d v H3 p s d3 => k d v H3 p (e2.same s) ((x1.trans x2).trans (.of_same s)) d3
theorem ev_un {r : V → Hp → VK → Prop} (h : EvD C ta δ fun a => RU C.K r a Φ) : EvD C (tUn r ta) δ Φ := fun fz M σ H en Q k =>
  h fz M σ H en _ fun a x H1 h1 e1 x1 d1 => h1 M x H1 e1.al d1 Q fun d v H3 p s d3 => k d v H3 p (e1.same s) (x1.trans (.of_same s)) d3
theorem ea_nil {Φ : List D → Prop} (q : Φ []) : EvA C tNil δ Φ := fun fz M σ H en Q k => k [] [] H q en (Ext.refl _ _) .nil
theorem ea_cons {Φ : List D → Prop} (h : EvD C te δ fun d => EvA C tr δ fun ds => Φ (d :: ds)) : EvA C (tCons te tr) δ Φ := fun fz M σ H en Q k =>
  h fz M σ H en _ fun a x H1 h1 e1 x1 d1 => h1 fz M σ H1 e1 _ fun ds vs H2 h2 e2 x2 d2 => k (a :: ds) (x :: vs) H2 h2 e2 (x1.trans x2) (.cons (d1.ext (x2.mono e2.b)) d2)
theorem ev_tup (h : EvA C tr δ fun ds => ds.length ≤ 100000 ∧ Φ (.tup ds)) : EvD C (tTup tr) δ Φ := fun fz M σ H en Q k =>
  h fz M σ H en _ fun ds vs H1 ⟨hl, h1⟩ e1 x1 d1 => ⟨by rw [d1.length]; exact Nat.le_trans hl (by decide), fun p hp =>
    k (.tup ds) (.ref p) _ h1 (e1.same (same_new hp)) (x1.trans (.of_same (same_new hp))) (.tup (e1.nm hp) (.inl upd_same) (d1.ext (.of_same (same_new hp))))⟩
theorem en_lst {Φ : List D → Prop} (h : EvA C tr δ fun ds => ds.length ≤ 100000 ∧ Φ ds) : EvN C (tLst tr) δ Φ := fun fz M σ H en Q k =>
  h fz M σ H en _ fun ds vs H1 ⟨hl, h1⟩ e1 x1 d1 => ⟨by rw [d1.length]; exact Nat.le_trans hl (by decide), fun p hp => by
    have hp0 : H p = none := by
      cases q : H p with
      | none => rfl
      | some o => by_cases m : M p
                  · exact absurd hp (e1.al p m)
                  · rw [x1 p o (fun z => m (e1.b p z)) q] at hp; cases hp
    exact k ds p vs _ h1 hp0 (e1.plus hp (same_new hp) upd_same) (x1.trans (.of_same (same_new hp))) upd_same ((d1.plus hp).ext (.of_same (same_new hp)))⟩
/-- a new list, as a tree -/
theorem ev_new {Φ : D → Prop} (h : EvN C te δ fun xs => Φ (.lst xs)) : EvD C te δ Φ := fun fz M σ H en Q k =>
  h fz M σ H en _ fun xs p vs H' q hp e x l d => k (.lst xs) (.ref p) H' q (e.less (fun a z => .inl z) en.m0 fun i s l hi hm hr => by
    obtain ⟨l', h1, h2⟩ := en.mref hi hm
    rw [hr] at h1
    cases h1
    exact h2) x (.lst (en.nm hp) l (d.to (fun a z => .inl z) (Ext.refl _ _)))
theorem ev_lst {Φ : D → Prop} (h : EvA C tr δ fun ds => ds.length ≤ 100000 ∧ Φ (.lst ds)) : EvD C (tLst tr) δ Φ := ev_new (en_lst h)
theorem ev_if (h : EvT C tt δ fun b => (b = true → EvD C ta δ Φ) ∧ (b = false → EvD C tb δ Φ)) : EvD C (tIf tt ta tb) δ Φ := fun fz M σ H en Q k =>
  h fz M σ H en _ fun b H1 hb e1 x1 => by
    cases b with
    | true => exact hb.1 rfl fz M σ H1 e1 Q fun d v H2 p e2 x2 => k d v H2 p e2 (x1.trans x2)
    | false => exact hb.2 rfl fz M σ H1 e1 Q fun d v H2 p e2 x2 => k d v H2 p e2 (x1.trans x2)
theorem ev_andV (h : EvD C ta δ fun a => ∃ b, a = .bl b ∧ (b = true → EvD C tb δ Φ) ∧ (b = false → Φ (.bl false))) : EvD C (tAndV ta tb) δ Φ := fun fz M σ H en Q k =>
  h fz M σ H en _ fun a x H1 hb e1 x1 d1 => by
    obtain ⟨b, rfl, h1, h2⟩ := hb
    cases d1
    refine ⟨b, rfl, ?_⟩
    cases b with
    | true => exact h1 rfl fz M σ H1 e1 Q fun d v H2 p e2 x2 => k d v H2 p e2 (x1.trans x2)
    | false => exact k _ _ H1 (h2 rfl) e1 x1 (.bl false)
theorem ev_orV (h : EvD C ta δ fun a => ∃ b, a = .bl b ∧ (b = false → EvD C tb δ Φ) ∧ (b = true → Φ (.bl true))) : EvD C (tOrV ta tb) δ Φ := fun fz M σ H en Q k =>
  h fz M σ H en _ fun a x H1 hb e1 x1 d1 => by
    obtain ⟨b, rfl, h1, h2⟩ := hb
    cases d1
    refine ⟨b, rfl, ?_⟩
    cases b with
    | false => exact h1 rfl fz M σ H1 e1 Q fun d v H2 p e2 x2 => k d v H2 p e2 (x1.trans x2)
    | true => exact k _ _ H1 (h2 rfl) e1 x1 (.bl true)
theorem ev_notV (h : EvD C ta δ fun a => ∃ b, a = .bl b ∧ Φ (.bl (!b))) : EvD C (tNotV ta) δ Φ := fun fz M σ H en Q k =>
  h fz M σ H en _ fun a x H1 hb e1 x1 d1 => by
    obtain ⟨b, rfl, h1⟩ := hb
    cases d1
    exact ⟨b, rfl, k _ _ H1 h1 e1 x1 (.bl _)⟩
/-! tests -/
theorem et_test {Φ : Bool → Prop} (h : EvD C te δ fun d => ∃ b, d = .bl b ∧ Φ b) : EvT C (tTest te) δ Φ := fun fz M σ H en Q k =>
  h fz M σ H en _ fun d v H1 hb e1 x1 d1 => by
    obtain ⟨b, rfl, h1⟩ := hb
    cases d1
    exact ⟨b, rfl, k b H1 h1 e1 x1⟩
theorem et_b {Φ : Bool → Prop} (h : EvD C te δ fun d => ∃ b, d = .bl b ∧ Φ b) : EvT C (tB te) δ Φ := et_test h
theorem et_and {Φ : Bool → Prop} (h : EvT C tt δ fun b => (b = true → EvT C tu δ Φ) ∧ (b = false → Φ false)) : EvT C (tAnd tt tu) δ Φ := fun fz M σ H en Q k =>
  h fz M σ H en _ fun b H1 hb e1 x1 => by
    cases b with
    | true => exact hb.1 rfl fz M σ H1 e1 Q fun d H2 p e2 x2 => k d H2 p e2 (x1.trans x2)
    | false => exact k false H1 (hb.2 rfl) e1 x1
theorem et_or {Φ : Bool → Prop} (h : EvT C tt δ fun b => (b = false → EvT C tu δ Φ) ∧ (b = true → Φ true)) : EvT C (tOr tt tu) δ Φ := fun fz M σ H en Q k =>
  h fz M σ H en _ fun b H1 hb e1 x1 => by
    cases b with
    | false => exact hb.1 rfl fz M σ H1 e1 Q fun d H2 p e2 x2 => k d H2 p e2 (x1.trans x2)
    | true => exact k true H1 (hb.2 rfl) e1 x1
theorem et_not {Φ : Bool → Prop} (h : EvT C tt δ fun b => Φ (!b)) : EvT C (tNot tt) δ Φ := fun fz M σ H en Q k => h fz M σ H en _ fun b H1 hb e1 x1 => k _ H1 hb e1 x1
/-! calls -/
theorem ev_cb {r : List V → Hp → VK → Prop} (h : EvA C tr δ fun ds => RC C.K r ds Φ) : EvD C (tCB r tr) δ Φ := fun fz M σ H en Q k =>
  h fz M σ H en _ fun ds vs H1 h1 e1 x1 d1 => h1 M vs H1 e1.al d1 Q fun d v H3 p s d3 => k d v H3 p (e1.same s) (x1.trans (.of_same s)) d3
/-- the callee's mode: the caller's, or pure -/
def Sub (m : Mode) (C : Ctx) : Prop := (m = C.m ∧ ¬ C.nw) ∨ m = pureM
theorem Sub.pure : Sub pureM C := .inr rfl
theorem Sub.own (h : ¬ C.nw) : Sub C.m C := .inl ⟨rfl, h⟩
theorem Sub.ext {m : Mode} (h : Sub m C) {H H' : Hp} (e : Ext m.B H H') : Ext C.m.B H H' := by
  rcases h with ⟨rfl, _⟩ | rfl
  · exact e
  · exact e.mono fun _ z => z.elim
theorem Sub.to {m : Mode} (h : Sub m C) {fz : List (V × D)} {M : Addr → Prop} {σ : L2.St} {H H' : Hp} (en : Env C fz M δ σ H) (e : Ext m.B H H') (i : m.I H') : Env C fz M δ σ H' := by
  rcases h with ⟨rfl, n⟩ | rfl
  · exact en.go e i fun z => absurd z n
  · exact en.same fun a o => e a o id
theorem Sub.takes {m : Mode} (h : Sub m C) {fz : List (V × D)} {M : Addr → Prop} {σ : L2.St} {H : Hp} (en : Env C fz M δ σ H) : TakesX C.K m M H C.X C.E := fun c fs H' hx e i => by
  have en' := h.to en e i
  obtain ⟨t1, t2⟩ := en.ok.tx c fs H' hx en'.ext en'.inv
  exact ⟨fun d fv h1 h2 h3 => t1 d fv h1 (en.fresh h2) (h3.to en.m0 (Ext.refl _ _)), t2⟩
theorem Sub.b {m : Mode} (h : Sub m C) {fz : List (V × D)} {M : Addr → Prop} {σ : L2.St} {H : Hp} (en : Env C fz M δ σ H) : ∀ a, m.B a → M a := by
  rcases h with ⟨rfl, _⟩ | rfl
  · exact en.b
  · exact fun _ z => z.elim
theorem Sub.i {m : Mode} (h : Sub m C) {fz : List (V × D)} {M : Addr → Prop} {σ : L2.St} {H : Hp} (en : Env C fz M δ σ H) : m.I H := by
  rcases h with ⟨rfl, _⟩ | rfl
  · exact en.inv
  · trivial
/-- trees in, a promise asked -/
theorem Sub.call {m : Mode} (h : Sub m C) {F : FSpec} {fz : List (V × D)} {M : Addr → Prop} {σ : L2.St} {H : Hp} (en : Env C fz M δ σ H) {vs : List V} {ds : List D} (d : DtL C.K M H vs ds) {Q : VK} (f : F ds Φ C.X)
    (k : ∀ d v H', Φ d → Env C fz M δ σ H' → Ext C.m.B H H' → Dt C.K M H' v d → Q v H') : lift C.K m F vs H Q C.E :=
  ⟨M, ds, C.X, Φ, h.b en, en.al, d, h.i en, h.takes en, f, fun d v H' p e i dt => k d v H' p (h.to en e i) (h.ext e) dt⟩
/-- a def of the text, its contract over trees; of the caller's mode, or pure -/
theorem ev_cl {n j : Nat} {m : Mode} {F : FSpec} {gV : List V → List V → List V} {gD : List D → List D → List D} {t tk : TA} (hm : Sub m C) (hg : ∀ M H vs zs ds es, DtL C.K M H vs ds → DtL C.K M H zs es → DtL C.K M H (gV vs zs) (gD ds es))
    (h : EvA C t δ fun ds => EvA C tk δ fun es => ds.length = n ∧ es.length = j ∧ F (gD ds es) Φ C.X) : EvD C (tCl n j (lift C.K m F) gV C.E t tk) δ Φ := fun fz M σ H en Q k =>
  h fz M σ H en _ fun ds vs H1 h1 e1 x1 d1 => h1 fz M σ H1 e1 _ fun es zs H2 ⟨l1, l2, h2⟩ e2 x2 d2 =>
    ⟨(d1.length).trans l1, (d2.length).trans l2, hm.call e2 (hg _ _ _ _ _ _ (d1.ext (x2.mono e2.b)) d2) h2 fun d v H3 p e3 x3 => k d v H3 p e3 ((x1.trans x2).trans x3)⟩
/-- o.m(..) -/
theorem ev_mt {c : Addr} {nm : Str} {n : Nat} {m : Mode} {F : FSpec} {gV : List V → List V → List V} {gD : List D → List D → List D} {t : TA} (hm : Sub m C) (hg : ∀ M H vs zs ds es, DtL C.K M H vs ds → DtL C.K M H zs es → DtL C.K M H (gV vs zs) (gD ds es))
    (h : EvD C ta δ fun o => ∃ fs, o = .obj c fs ∧ (∀ p ∈ fs, p.1 ≠ nm) ∧ EvA C t δ fun ds => ds.length = n ∧ F (gD (o :: ds) []) Φ C.X) : EvD C (tMt c nm n (lift C.K m F) gV C.E ta t) δ Φ := fun fz M σ H en Q k =>
  h fz M σ H en _ fun o x H1 ho e1 x1 d1 => by
    obtain ⟨fs, rfl, hl, h1⟩ := ho
    cases d1 with
    | @obj a _ dx fv _ hn ha hf =>
      refine ⟨a, dx, fv, rfl, ha, ?_, h1 fz M σ H1 e1 _ fun ds vs H2 ⟨l1, h2⟩ e2 x2 d2 => ⟨(d2.length).trans l1, ?_⟩⟩
      · have key : ∀ {fv : List (Str × V)} {fs : List (Str × D)}, DtF C.K M H1 fv fs → (∀ p ∈ fs, p.1 ≠ nm) → fv.lookup nm = none := by
          intro fv
          induction fv with
          | nil => intro fs _ _; rfl
          | cons q r ih =>
            intro fs hf hl
            cases hf with
            | cons h t =>
              rw [List.lookup_cons, beq_eq_false_iff_ne.mpr (fun z => hl _ (List.mem_cons_self ..) z.symm)]
              exact ih t fun p hp => hl p (List.mem_cons_of_mem _ hp)
        exact key hf hl
      · exact hm.call e2 (hg _ _ _ _ _ _ (.cons (Dt.ext (.obj hn ha hf) (x2.mono e2.b)) d2) .nil) h2 fun d v H3 p e3 x3 => k d v H3 p e3 ((x1.trans x2).trans x3)
/-- o.f -/
theorem dtf_look {K : PySem.W.Frag} {M : Addr → Prop} {H : Hp} {f : Str} {d : D} : ∀ {fv : List (Str × V)} {fs : List (Str × D)}, DtF K M H fv fs → fs.lookup f = some d → ∃ v, fv.lookup f = some v ∧ Dt K M H v d
  | _, _, .nil, h => by cases h
  | _, _, @DtF.cons _ _ _ g v d' fv fs h t, e => by
    rw [List.lookup_cons] at e
    cases q : f == g with
    | true =>
      rw [q] at e
      cases e
      exact ⟨v, by rw [List.lookup_cons, q], h⟩
    | false =>
      rw [q] at e
      obtain ⟨u, h1, h2⟩ := dtf_look t e
      exact ⟨u, by rw [List.lookup_cons, q]; exact h1, h2⟩
theorem ev_fld {f : Str} {c : Addr} (hc : Cls C.K c) (hn : NoAttr C.K c f) (h : EvD C ta δ fun o => ∃ fs d, o = .obj c fs ∧ fs.lookup f = some d ∧ Φ d) : EvD C (tFld C.K ta f) δ Φ := fun fz M σ H en Q k =>
  h fz M σ H en _ fun o x H1 ho e1 x1 d1 => by
    obtain ⟨fs, d, rfl, hl, p⟩ := ho
    cases d1 with
    | @obj a _ dx fv _ hm ha hf =>
      obtain ⟨v, h1, h2⟩ := dtf_look hf hl
      exact ⟨a, c, dx, fv, v, rfl, ha, hc, hn, h1, k d v H1 p e1 x1 h2⟩
end
end Wn
end

section
/-! Statements over trees (Blk), loops, comprehensions, the start of a def and of a law. -/
namespace Wn
open PySem PySem.Spec PyProof.Rows L2

structure DE where
  nx : List Sl → Prop
  rt : D → Prop
  bk : List Sl → Prop := fun _ => False
  ct : List Sl → Prop := fun _ => False
  rn : List D → Prop := fun _ => False
structure Lf (C : Ctx) (fz : List (V × D)) (D' : Ends) (P : DE) : Prop where
  nx : ∀ M σ H δ, P.nx δ → Env C fz M δ σ H → D'.nx σ H
  rt : ∀ v H d, P.rt d → Ext C.m.B C.H0 H → C.m.I H → Dt C.K C.M0 H v d → D'.rt v H
  bk : ∀ M σ H δ, P.bk δ → Env C fz M δ σ H → D'.bk σ H
  ct : ∀ M σ H δ, P.ct δ → Env C fz M δ σ H → D'.ct σ H
  rn : ∀ (p : Addr) us H xs, P.rn xs → Ext C.m.B C.H0 H → C.m.I H → C.H0 p = none → H p = some (.lst us) → DtL C.K (fun a => C.M0 a ∨ a = p) H us xs → D'.rt (.ref p) H
def Blk (C : Ctx) (t : TS) (δ : List Sl) (P : DE) : Prop := ∀ (fz : List (V × D)) (M : Addr → Prop) (σ : L2.St) (H : Hp), Env C fz M δ σ H → ∀ D' : Ends, Lf C fz D' P → t D' σ H

section
variable {C : Ctx} {fz : List (V × D)} {M N : Addr → Prop} {δ : List Sl} {σ : L2.St} {H H' : Hp} {P : DE} {t u : TS} {te ta tb : TE} {tt : TT} {tr : TA} {g : TG} {i : Nat}
theorem Env.ret {v : V} {d : D} (en : Env C fz M δ σ H) (h : Dt C.K M H v d) : Ext C.m.B C.H0 H ∧ C.m.I H ∧ Dt C.K C.M0 H v d := ⟨en.ext, en.inv, h.weak en.m0⟩
theorem b_seq (h : Blk C t δ { P with nx := fun δ' => Blk C u δ' P }) : Blk C (tSeq t u) δ P := fun fz M σ H en D' l =>
  h fz M σ H en { D' with nx := u D' } ⟨fun M σ H δ' q e => q fz M σ H e D' l, l.rt, l.bk, l.ct, l.rn⟩
/-- .. with a word between them -/
theorem b_seqW (W : List Sl → Prop) (h : Blk C t δ { P with nx := W }) (k : ∀ δ', W δ' → Blk C u δ' P) : Blk C (tSeq t u) δ P := fun fz M σ H en D' l =>
  h fz M σ H en { D' with nx := u D' } ⟨fun M σ H δ' q e => k δ' q fz M σ H e D' l, l.rt, l.bk, l.ct, l.rn⟩
theorem b_next (h : P.nx δ) : Blk C tNext δ P := fun fz M σ H en D' l => l.nx M σ H δ h en
theorem b_brk (h : P.bk δ) : Blk C tBreak δ P := fun fz M σ H en D' l => l.bk M σ H δ h en
theorem b_cont (h : P.ct δ) : Blk C tCont δ P := fun fz M σ H en D' l => l.ct M σ H δ h en
theorem b_if (h : EvT C tt δ fun b => (b = true → Blk C t δ P) ∧ (b = false → Blk C u δ P)) : Blk C (tIfS tt t u) δ P := fun fz M σ H en D' l =>
  h fz M σ H en _ fun b H1 hb e1 x1 => by
    cases b with
    | true => exact hb.1 rfl fz M σ H1 e1 D' l
    | false => exact hb.2 rfl fz M σ H1 e1 D' l
theorem b_asg (h : EvD C te δ fun d => P.nx (δ.set i (.d d))) : Blk C (tAsg te (gName i)) δ P := fun fz M σ H en D' l =>
  h fz M σ H en _ fun d v H1 p e1 x1 d1 => l.nx M _ H1 _ p (e1.putD d1)
theorem EvN.own (h : EvN C te δ fun xs => P.nx (δ.set i (.own xs))) : Blk C (tAsg te (gName i)) δ P := fun fz M σ H en D' l =>
  h fz M σ H en _ fun xs p vs H1 q hp e1 x1 lp d1 => l.nx _ _ H1 _ q (e1.put (fun _ => ⟨p, vs, rfl, .inr rfl, en.fresh hp, lp, d1⟩) fun _ j t' l' nj hj hm hv => by
    cases hv
    intro z
    obtain ⟨l2, h1, h2⟩ := en.mref hj hm
    rw [h1] at z
    cases z
    exact en.nm hp h2)
theorem b_own (h : EvN C te δ fun xs => P.nx (δ.set i (.own xs))) : Blk C (tAsg te (gName i)) δ P := EvN.own h
theorem b_drop (h : EvD C te δ fun _ => P.nx δ) : Blk C (tDrop te) δ P := fun fz M σ H en D' l => h fz M σ H en _ fun d v H1 p e1 x1 d1 => l.nx M _ H1 _ p e1
theorem b_ret (h : EvD C te δ P.rt) : Blk C (tRet te) δ P := fun fz M σ H en D' l => h fz M σ H en _ fun d v H1 p e1 x1 d1 =>
  let ⟨a, b, c⟩ := e1.ret d1
  l.rt v H1 d p a b c
theorem b_retN (h : P.rt .non) : Blk C tRetN δ P := fun fz M σ H en D' l => l.rt .non H .non h en.ext en.inv .non
/-- a list under way is done -/
theorem b_frz {xs : List D} (i : Nat) (hi : δ[i]? = some (.own xs)) (h : Blk C t (δ.set i (.d (.lst xs))) P) : Blk C t δ P := fun fz M σ H en D' l => by
  obtain ⟨v, h1, p, vs, rfl, m1, f1, hp, d1⟩ := en.sl i _ hi
  have hl := lt_of_some hi
  have noM0 : ¬ C.M0 p := fun z => en.ok.al p z f1
  have key : Env C fz (fun a => M a ∧ a ≠ p) (δ.set i .no) (σ.set i (some (.ref p))) H := (en.putNo (i := i) (v := some (.ref p))).less (fun a z => z.1) (fun a z => ⟨en.m0 a z, fun e => noM0 (e ▸ z)⟩) fun j s l2 hj hm hr => by
    rcases set_cases hj with ⟨a1, b1⟩ | ⟨n1, g1⟩
    · rw [b1] at hm
      exact hm.elim
    · rw [List.getElem?_set_ne (Ne.symm n1)] at hr
      obtain ⟨l3, q1, q2⟩ := en.mref g1 hm
      rw [hr] at q1
      cases q1
      refine ⟨q2, fun e => ?_⟩
      subst e
      exact n1 (en.inj j i s (.own xs) l2 g1 hi hm trivial hr h1)
  have d2 : Dt C.K (fun a => M a ∧ a ≠ p) H (.ref p) (.lst xs) := .lst (fun z => z.2 rfl) hp (d1.to (fun a z => z.1) (Ext.refl _ _))
  have key2 := key.putD (i := i) d2
  rw [List.set_set, List.set_set] at key2
  have es : σ.set i (some (.ref p)) = σ := by
    apply List.ext_getElem?
    intro j
    by_cases e : j = i
    · subst e
      rw [List.getElem?_set_self (lt_of_some h1), h1]
    · rw [List.getElem?_set_ne (Ne.symm e)]
  rw [es] at key2
  exact h fz _ σ H key2 D' l
/-- return of a list under way -/
theorem b_retO {xs : List D} (hi : δ[i]? = some (.own xs)) (h : P.rt (.lst xs)) : Blk C (tRet (tVar i)) δ P :=
  b_frz i hi (b_ret (ev_var (x := .lst xs) (List.getElem?_set_self (lt_of_some hi)) h))
/-- the list at a slot changes -/
theorem Env.upd {xs ys : List D} {p : Addr} {vs : List V} (en : Env C fz M δ σ H) (hi : δ[i]? = some (.own xs)) (h1 : σ[i]? = some (some (.ref p))) (hn : DtL C.K M H vs ys) : Env C fz M (δ.set i (.own ys)) σ (upd H p (.lst vs)) := by
  obtain ⟨v, h1', p', vs', rfl, m1, f1, hp, d1⟩ := en.sl i _ hi
  rw [h1] at h1'
  cases h1'
  have ex : Ext M H (L2.upd H p (.lst vs)) := fun a o n ha => by
    rw [upd_ne (fun e => n (by rw [e]; exact m1))]
    exact ha
  have nb : ¬ C.m.B p := en.nb f1
  refine ⟨en.ok, by rw [List.length_set]; exact en.ln, fun j s hj => ?_, fun q hq => (en.fzs q hq).ext ex, fun j k s s' l hj hk mj mk ej ek => ?_, en.m0, fun a ha => ?_, fun a o n ha => ?_, ?_⟩
  · rcases set_cases hj with ⟨a1, b1⟩ | ⟨n1, g1⟩
    · subst a1
      subst b1
      exact ⟨_, h1, p, vs, rfl, m1, f1, upd_same, hn.ext ex⟩
    · obtain ⟨w, q1, q2⟩ := en.sl j s g1
      refine ⟨w, q1, ?_⟩
      cases s with
      | no => trivial
      | d x =>
        obtain ⟨u, r1, r2⟩ := q2
        exact ⟨u, r1, r2.ext ex⟩
      | own zs =>
        obtain ⟨l, us, r1, r2, r3, r4, r5⟩ := q2
        refine ⟨l, us, r1, r2, r3, ?_, r5.ext ex⟩
        rw [upd_ne (fun e => n1 ?_)]
        · exact r4
        · subst e
          rw [r1] at q1
          exact en.inj j i _ _ _ g1 hi trivial trivial q1 h1
      | new c fs =>
        obtain ⟨hw, l, dx, fv, r1, r2, r3, r4, r5⟩ := q2
        refine ⟨hw, l, dx, fv, r1, r2, r3, ?_, r5.ext ex⟩
        rw [upd_ne (fun e : l = p => nb (by rw [← e]; exact r3))]
        exact r4
  · have o1 : ∃ s1, δ[j]? = some s1 ∧ s1.mut := by
      rcases set_cases hj with ⟨a1, b1⟩ | ⟨n1, g1⟩
      · exact ⟨Sl.own xs, by rw [a1]; exact hi, trivial⟩
      · exact ⟨_, g1, mj⟩
    have o2 : ∃ s1, δ[k]? = some s1 ∧ s1.mut := by
      rcases set_cases hk with ⟨a1, b1⟩ | ⟨n1, g1⟩
      · exact ⟨Sl.own xs, by rw [a1]; exact hi, trivial⟩
      · exact ⟨_, g1, mk⟩
    obtain ⟨s1, y1, z1⟩ := o1
    obtain ⟨s2, y2, z2⟩ := o2
    exact en.inj j k s1 s2 l y1 y2 z1 z2 ej ek
  · by_cases e : a = p
    · rw [e, upd_same]
      exact fun z => by cases z
    · rw [upd_ne e]
      exact en.al a ha
  · rw [upd_ne (fun e => by rw [e, f1] at ha; cases ha)]
    exact en.ext a o n ha
  · refine C.m.st C.H0 H _ en.ok.i0 en.inv fun a ha => ?_
    rw [upd_ne (fun e : a = p => ha (by rw [e]; exact f1))]
/-- x.append(e) -/
theorem b_app {xs : List D} {K : PySem.W.Frag} (hK : K = C.K) (hi : δ[i]? = some (.own xs)) (h : EvD C te δ fun d => xs.length < 100000 ∧ P.nx (δ.set i (.own (xs ++ [d])))) : Blk C (tDrop (tBM K "list" rAppend (tVar i) (tCons te tNil))) δ P := fun fz M σ H en D' l => by
  subst hK
  obtain ⟨v, h1, p, vs, rfl, m1, f1, hp, d1⟩ := en.sl i _ hi
  refine ⟨.ref p, h1, .inl ⟨rfl, vs, SqL.of hp⟩, h fz M σ H en _ fun d w H1 ⟨hl, q⟩ e1 x1 dw => ?_⟩
  obtain ⟨v', h1', p', vs', e', m1', f1', hp', d1'⟩ := e1.sl i _ hi
  rw [h1] at h1'
  cases h1'
  cases e'
  exact ⟨p, vs', w, rfl, rfl, hp', by rw [d1'.length]; exact Nat.lt_of_lt_of_le hl (by decide), l.nx M σ _ _ q (e1.upd hi h1 (d1'.append (.cons dw .nil)))⟩

/-! ### targets -/
/-- a, b, .. = a tuple -/
def GOk (C : Ctx) (g : TG) (d : D) (δ : List Sl) (Φ : List Sl → Prop) : Prop := ∀ (fz : List (V × D)) (M : Addr → Prop) (σ : L2.St) (H : Hp) (v : V), Env C fz M δ σ H → Dt C.K M H v d → ∀ Q : L2.St → Hp → Prop, (∀ δ' σ', Φ δ' → Env C fz M δ' σ' H → Q σ' H) → g v σ H Q
def GsOk (C : Ctx) (g : TGs) (ds : List D) (δ : List Sl) (Φ : List Sl → Prop) : Prop := ∀ (fz : List (V × D)) (M : Addr → Prop) (σ : L2.St) (H : Hp) (vs : List V), Env C fz M δ σ H → DtL C.K M H vs ds → ∀ Q : L2.St → Hp → Prop, (∀ δ' σ', Φ δ' → Env C fz M δ' σ' H → Q σ' H) → g vs σ H Q
theorem g_name {d : D} {Φ : List Sl → Prop} (h : Φ (δ.set i (.d d))) : GOk C (gName i) d δ Φ := fun fz M σ H v en dv Q k => k _ _ h (en.putD dv)
theorem gs_nil {Φ : List Sl → Prop} (h : Φ δ) : GsOk C gNil [] δ Φ := fun fz M σ H v en dv Q k => by
  cases dv
  exact ⟨rfl, k _ _ h en⟩
theorem gs_cons {d : D} {ds : List D} {gs : TGs} {Φ : List Sl → Prop} (h : GOk C g d δ fun δ' => GsOk C gs ds δ' Φ) : GsOk C (gCons g gs) (d :: ds) δ Φ := fun fz M σ H v en dv Q k => by
  cases dv with
  | cons h1 h2 => exact ⟨_, _, rfl, h fz M σ H _ en h1 _ fun δ' σ' q e => q fz M σ' H _ e h2 Q k⟩
theorem g_tup {K : PySem.W.Frag} (hK : K = C.K) {n : Nat} {gs : TGs} {d : D} {Φ : List Sl → Prop} (h : ∃ ds, d = .tup ds ∧ ds.length = n ∧ GsOk C gs ds δ Φ) : GOk C (gTup K n gs) d δ Φ := fun fz M σ H v en dv Q k => by
  subst hK
  obtain ⟨ds, rfl, hl, h⟩ := h
  cases dv with
  | @tup a vs _ n1 h1 h2 => exact ⟨a, vs, rfl, .inl h1, h2.length.trans hl, h fz M σ H _ en h2 Q k⟩
  | @ktup a vs _ h1 h2 => exact ⟨a, vs, rfl, h1 H, h2.length.trans hl, h fz M σ H _ en h2 Q k⟩
theorem b_asgG (h : EvD C te δ fun d => GOk C g d δ P.nx) : Blk C (tAsg te g) δ P := fun fz M σ H en D' l =>
  h fz M σ H en _ fun d v H1 p e1 x1 d1 => p fz M σ H1 v e1 d1 _ fun δ' σ' q e => l.nx M σ' H1 δ' q e
/-- a, b = x, y (names of the frame) -/
theorem b_par {j : Nat} (h : EvA C tr δ fun ds => ∃ a b, ds = [a, b] ∧ P.nx ((δ.set i (.d a)).set j (.d b))) : Blk C (tPar i j tr) δ P := fun fz M σ H en D' l =>
  h fz M σ H en _ fun ds vs H1 ⟨a, b, e, p⟩ e1 x1 d1 => by
    subst e
    cases d1 with
    | cons h1 t => cases t with
      | cons h2 t => cases t; exact ⟨_, _, rfl, l.nx M _ H1 _ p ((e1.putD h1).putD h2)⟩
/-- x op= e -/
theorem b_aug {f : Int → Int → Int} {a : Int} (hi : δ[i]? = some (.d (.int a))) (h : EvD C te δ fun d => ∃ b, d = .int b ∧ P.nx (δ.set i (.d (.int (f a b))))) : Blk C (tAug i te (ipI f)) δ P := fun fz M σ H en D' l => by
  obtain ⟨v, h1, u, rfl, hu⟩ := en.sl i _ hi
  cases hu
  exact ⟨_, h1, h fz M σ H en _ fun d w H1 ⟨b, e, p⟩ e1 x1 d1 => by
    subst e
    cases d1
    exact ⟨a, b, rfl, rfl, l.nx M _ H1 _ p (e1.putD (.int _))⟩⟩

/-! ### loops -/
theorem b_forR {ta : TA} {n : Int} {j : Nat} (W : Nat → List Sl → Prop) (h : EvA C ta δ fun ds => ds = [.int n]) (hn : n ≤ 2 ^ 61 ∧ -(2 ^ 61) ≤ n) (h0 : W 0 δ)
    (hs : ∀ (k : Nat) δ', k < n.toNat → W k δ' → Blk C t (δ'.set j (.d (.int (k : Int)))) { nx := W (k + 1), ct := W (k + 1), bk := P.nx, rt := P.rt, rn := P.rn })
    (hd : ∀ δ', W n.toNat δ' → P.nx δ') : Blk C (tFor (iRng1 ta) (gName j) t) δ P := fun fz M σ H en D' l =>
  h fz M σ H en _ fun ds vs H1 e e1 x1 d1 => by
    subst e
    cases d1 with
    | cons a b =>
      cases a
      cases b
      refine ⟨n, rfl, by omega, by omega, for_range (lo := 0) (n := n.toNat) (fun k σ' H' => ∃ δ' M', W k δ' ∧ Env C fz M' δ' σ' H') ⟨δ, M, h0, e1⟩ (fun k σ' H' hk ⟨δ', M', w, e'⟩ => ?_) fun σ' H' ⟨δ', M', w, e'⟩ => l.nx M' σ' H' δ' (hd δ' w) e'⟩
      have z : (0 : Int) + (k : Int) = (k : Int) := Int.zero_add _
      show t _ (σ'.set j (some (.int ((0 : Int) + (k : Int))))) H'
      rw [z]
      exact hs k δ' hk w fz M' _ H' (e'.putD (.int _)) _ ⟨fun M2 σ2 H2 δ2 q e2 => ⟨δ2, M2, q, e2⟩, l.rt, l.nx, fun M2 σ2 H2 δ2 q e2 => ⟨δ2, M2, q, e2⟩, l.rn⟩
theorem b_forR2 {ta : TA} {lo n : Int} {j : Nat} (W : Nat → List Sl → Prop) (h : EvA C ta δ fun ds => ds = [.int lo, .int n]) (hn : n ≤ 2 ^ 61 ∧ -(2 ^ 61) ≤ n ∧ lo ≤ 2 ^ 61 ∧ -(2 ^ 61) ≤ lo) (h0 : W 0 δ)
    (hs : ∀ (k : Nat) δ', k < (n - lo).toNat → W k δ' → Blk C t (δ'.set j (.d (.int (lo + (k : Int))))) { nx := W (k + 1), ct := W (k + 1), bk := P.nx, rt := P.rt, rn := P.rn })
    (hd : ∀ δ', W (n - lo).toNat δ' → P.nx δ') : Blk C (tFor (iRng2 ta) (gName j) t) δ P := fun fz M σ H en D' l =>
  h fz M σ H en _ fun ds vs H1 e e1 x1 d1 => by
    subst e
    cases d1 with
    | cons a b =>
      cases a
      cases b with
      | cons a b =>
        cases a
        cases b
        refine ⟨lo, n, rfl, by omega, for_range (lo := lo) (n := (n - lo).toNat) (fun k σ' H' => ∃ δ' M', W k δ' ∧ Env C fz M' δ' σ' H') ⟨δ, M, h0, e1⟩ (fun k σ' H' hk ⟨δ', M', w, e'⟩ => ?_) fun σ' H' ⟨δ', M', w, e'⟩ => l.nx M' σ' H' δ' (hd δ' w) e'⟩
        exact hs k δ' hk w fz M' _ H' (e'.putD (.int _)) _ ⟨fun M2 σ2 H2 δ2 q e2 => ⟨δ2, M2, q, e2⟩, l.rt, l.nx, fun M2 σ2 H2 δ2 q e2 => ⟨δ2, M2, q, e2⟩, l.rn⟩
theorem Env.fz0 {q : V × D} (en : Env C (q :: fz) M δ σ H) : Env C fz M δ σ H := ⟨en.ok, en.ln, en.sl, fun p h => en.fzs p (List.mem_cons_of_mem _ h), en.inj, en.m0, en.al, en.ext, en.inv⟩
theorem Env.fz1 {v : V} {d : D} (en : Env C fz M δ σ H) (h : Dt C.K M H v d) : Env C ((v, d) :: fz) M δ σ H := ⟨en.ok, en.ln, en.sl, fun p hp => by
  rcases List.mem_cons.mp hp with e | hp
  · rw [e]; exact h
  · exact en.fzs p hp, en.inj, en.m0, en.al, en.ext, en.inv⟩
theorem Env.fzd {v : V} {d : D} (en : Env C ((v, d) :: fz) M δ σ H) : Dt C.K M H v d := en.fzs (v, d) (List.mem_cons_self ..)
theorem dt_lst_inj {K : PySem.W.Frag} {a : Addr} {vs : List V} {ds : List D} (h : Dt K M H (.ref a) (.lst ds)) (ha : H a = some (.lst vs)) : DtL K M H vs ds := by
  cases h with
  | lst _ h1 h2 =>
    rw [h1] at ha
    cases ha
    exact h2
theorem dtl_at {K : PySem.W.Frag} : ∀ {vs : List V} {ds : List D} {i : Nat} {v : V}, DtL K M H vs ds → vs[i]? = some v → ∃ d, ds[i]? = some d ∧ Dt K M H v d
  | _, _, _, _, .nil, e => by simp at e
  | _, _, 0, _, .cons h _, e => by simp at e; subst e; exact ⟨_, rfl, h⟩
  | _, _, i + 1, _, .cons _ t, e => by
    obtain ⟨d, h1, h2⟩ := dtl_at (i := i) t (by simpa using e)
    exact ⟨d, by simpa using h1, h2⟩
theorem Env.sq {a : Addr} {ds : List D} (en : Env C ((.ref a, .lst ds) :: fz) M δ σ H) : ∃ vs, SqL C.K H a vs ∧ DtL C.K M H vs ds := by
  have d := en.fzd
  cases d with
  | lst _ h1 h2 => exact ⟨_, SqL.of h1, h2⟩
theorem Env.st {a : Addr} {ds : List D} (en : Env C ((.ref a, .tup ds) :: fz) M δ σ H) : ∃ vs, SqT C.K H a vs ∧ DtL C.K M H vs ds := by
  have d := en.fzd
  cases d with
  | tup _ h1 h2 => exact ⟨_, .inl h1, h2⟩
  | ktup h1 h2 => exact ⟨_, h1 H, h2⟩
/-- for x in a list -/
theorem b_forL {K : PySem.W.Frag} (hK : K = C.K) {tl : TE} {ds : List D} (W : Nat → List Sl → Prop) (h : EvD C tl δ fun d => d = .lst ds) (h0 : W 0 δ)
    (hs : ∀ (k : Nat) x δ', ds[k]? = some x → W k δ' → GOk C g x δ' fun δ2 => Blk C t δ2 { nx := W (k + 1), ct := W (k + 1), bk := P.nx, rt := P.rt, rn := P.rn })
    (hd : ∀ δ', W ds.length δ' → P.nx δ') : Blk C (tFor (iList K tl) g t) δ P := fun fz M σ H en D' l =>
  h fz M σ H en _ fun d v H1 e e1 x1 d1 => by
    subst hK
    subst e
    obtain ⟨a, rfl⟩ : ∃ a, v = .ref a := by cases d1; exact ⟨_, rfl⟩
    have e1' := e1.fz1 d1
    obtain ⟨vs, sq, _⟩ := e1'.sq
    refine ⟨a, rfl, ⟨vs, sq⟩, fun i m σ' H' => m = ds.length - i ∧ i ≤ ds.length ∧ ∃ δ' M', W i δ' ∧ Env C ((.ref a, .lst ds) :: fz) M' δ' σ' H', ⟨_, rfl, Nat.zero_le _, δ, M, h0, e1'⟩, ?_⟩
    rintro i m σ' H' ⟨rfl, hi, δ', M', w, e'⟩
    obtain ⟨us, sq', dl⟩ := e'.sq
    have el := dl.length
    by_cases hlt : i < ds.length
    · refine .inr ⟨⟨us, us[i]'(by omega), sq', by simp⟩, fun σ2 H2 => ∃ δ2 M2, W (i + 1) δ2 ∧ Env C ((.ref a, .lst ds) :: fz) M2 δ2 σ2 H2, fun σ2 H2 ⟨δ2, M2, w2, e2⟩ => ⟨_, by omega, rfl, hlt, δ2, M2, w2, e2⟩, fun x H2 ⟨eq, hx⟩ => ?_⟩
      subst eq
      obtain ⟨d, hd1, hd2⟩ := dtl_at dl (hx us sq')
      exact hs i d δ' hd1 w _ M' σ' _ x e' hd2 _ fun δ2 σ2 q e2 => q _ M' σ2 _ e2 _ ⟨fun M3 σ3 H3 δ3 q3 e3 => ⟨δ3, M3, q3, e3⟩, l.rt, fun M3 σ3 H3 δ3 q3 e3 => l.nx M3 σ3 H3 δ3 q3 e3.fz0, fun M3 σ3 H3 δ3 q3 e3 => ⟨δ3, M3, q3, e3⟩, l.rn⟩
    · refine .inl ⟨⟨us, sq', by omega⟩, l.nx M' σ' H' δ' (hd δ' ?_) e'.fz0⟩
      have : i = ds.length := by omega
      rw [← this]
      exact w
/-- for x in a tuple -/
theorem b_forT {K : PySem.W.Frag} (hK : K = C.K) {tl : TE} {ds : List D} (W : Nat → List Sl → Prop) (h : EvD C tl δ fun d => d = .tup ds) (h0 : W 0 δ)
    (hs : ∀ (k : Nat) x δ', ds[k]? = some x → W k δ' → GOk C g x δ' fun δ2 => Blk C t δ2 { nx := W (k + 1), ct := W (k + 1), bk := P.nx, rt := P.rt, rn := P.rn })
    (hd : ∀ δ', W ds.length δ' → P.nx δ') : Blk C (tFor (iTup K tl) g t) δ P := fun fz M σ H en D' l =>
  h fz M σ H en _ fun d v H1 e e1 x1 d1 => by
    subst hK
    subst e
    obtain ⟨a, rfl⟩ : ∃ a, v = .ref a := by cases d1 <;> exact ⟨_, rfl⟩
    have e1' := e1.fz1 d1
    obtain ⟨vs, sq, _⟩ := e1'.st
    refine ⟨a, rfl, ⟨vs, sq⟩, fun i m σ' H' => m = ds.length - i ∧ i ≤ ds.length ∧ ∃ δ' M', W i δ' ∧ Env C ((.ref a, .tup ds) :: fz) M' δ' σ' H', ⟨_, rfl, Nat.zero_le _, δ, M, h0, e1'⟩, ?_⟩
    rintro i m σ' H' ⟨rfl, hi, δ', M', w, e'⟩
    obtain ⟨us, sq', dl⟩ := e'.st
    have el := dl.length
    by_cases hlt : i < ds.length
    · refine .inr ⟨⟨us, us[i]'(by omega), sq', by simp⟩, fun σ2 H2 => ∃ δ2 M2, W (i + 1) δ2 ∧ Env C ((.ref a, .tup ds) :: fz) M2 δ2 σ2 H2, fun σ2 H2 ⟨δ2, M2, w2, e2⟩ => ⟨_, by omega, rfl, hlt, δ2, M2, w2, e2⟩, fun x H2 ⟨eq, hx⟩ => ?_⟩
      subst eq
      obtain ⟨d, hd1, hd2⟩ := dtl_at dl (hx us sq')
      exact hs i d δ' hd1 w _ M' σ' _ x e' hd2 _ fun δ2 σ2 q e2 => q _ M' σ2 _ e2 _ ⟨fun M3 σ3 H3 δ3 q3 e3 => ⟨δ3, M3, q3, e3⟩, l.rt, fun M3 σ3 H3 δ3 q3 e3 => l.nx M3 σ3 H3 δ3 q3 e3.fz0, fun M3 σ3 H3 δ3 q3 e3 => ⟨δ3, M3, q3, e3⟩, l.rn⟩
    · refine .inl ⟨⟨us, sq', by omega⟩, l.nx M' σ' H' δ' (hd δ' ?_) e'.fz0⟩
      have : i = ds.length := by omega
      rw [← this]
      exact w

/-! ### comprehensions (target one name, its slot j) -/
theorem wipe_back {σ : L2.St} {j : Nat} {x : Option V} : wipe ((wipe σ [j]).set j x) [j] = wipe σ [j] := by
  show (((σ.set j none).set j x)).set j none = σ.set j none
  rw [List.set_set, List.set_set]
/-- a slot's former content again -/
theorem Env.back {j : Nat} {s : Sl} {v : Option V} {N' : Addr → Prop} (L : Env C fz N' δ σ H) (e : Env C fz N' (δ.set j s) (σ.set j v) H') (x : Ext C.m.B H H') (hj : ∀ c fs, δ[j]? ≠ some (.new c fs)) : Env C fz N' δ σ H' := by
  refine ⟨e.ok, L.ln, fun i t hi => ?_, e.fzs, L.inj, e.m0, e.al, e.ext, e.inv⟩
  by_cases ij : i = j
  · subst ij
    obtain ⟨u, h1, h2⟩ := L.sl i t hi
    refine ⟨u, h1, ?_⟩
    cases t with
    | no => trivial
    | d y =>
      obtain ⟨w, q1, q2⟩ := h2
      exact ⟨w, q1, q2.ext (x.mono L.b)⟩
    | own xs =>
      obtain ⟨l, vs, q1, q2, q3, q4, q5⟩ := h2
      exact ⟨l, vs, q1, q2, q3, x l _ (L.nb q3) q4, q5.ext (x.mono L.b)⟩
    | new c fs => exact absurd hi (hj c fs)
  · obtain ⟨u, h1, h2⟩ := e.sl i t (by rw [List.getElem?_set_ne (Ne.symm ij)]; exact hi)
    rw [List.getElem?_set_ne (Ne.symm ij)] at h1
    exact ⟨u, h1, h2⟩
/-- one turn: the list so far at p -/
structure LcAt (C : Ctx) (fz : List (V × D)) (M : Addr → Prop) (δ : List Sl) (σ : L2.St) (B0 : Hp) (p : Addr) (acc : List D) (H : Hp) : Prop where
  en : Env C fz (fun a => M a ∨ a = p) δ σ H
  h0 : C.H0 p = none
  ext : Ext C.m.B B0 H
  at_ : ∃ vs, H p = some (.lst vs) ∧ DtL C.K (fun a => M a ∨ a = p) H vs acc
/-- the list so far changes -/
theorem LcAt.upd {p : Addr} {acc acc' : List D} {vs : List V} {B0 : Hp} (L : LcAt C fz M δ σ B0 p acc H) (hb : B0 p = none) (no : ∀ (i : Nat) s, δ[i]? = some s → s.mut → σ[i]? ≠ some (some (.ref p)))
    (h : DtL C.K (fun a => M a ∨ a = p) H vs acc') : LcAt C fz M δ σ B0 p acc' (L2.upd H p (.lst vs)) := by
  have ex : Ext (fun a => M a ∨ a = p) H (L2.upd H p (.lst vs)) := fun a o n ha => by
    rw [upd_ne (fun e => n (.inr e))]
    exact ha
  have nb : ¬ C.m.B p := L.en.nb L.h0
  refine ⟨⟨L.en.ok, L.en.ln, fun i s hi => ?_, fun q hq => (L.en.fzs q hq).ext ex, L.en.inj, L.en.m0, fun a ha => ?_, fun a o n ha => ?_, ?_⟩, L.h0, fun a o n ha => ?_, vs, upd_same, h.ext ex⟩
  · obtain ⟨u, h1, h2⟩ := L.en.sl i s hi
    refine ⟨u, h1, ?_⟩
    cases s with
    | no => trivial
    | d y =>
      obtain ⟨w, q1, q2⟩ := h2
      exact ⟨w, q1, q2.ext ex⟩
    | own xs =>
      obtain ⟨l, us, q1, q2, q3, q4, q5⟩ := h2
      refine ⟨l, us, q1, q2, q3, ?_, q5.ext ex⟩
      rw [upd_ne (fun e : l = p => no i _ hi trivial (by rw [h1, q1, e]))]
      exact q4
    | new c fs =>
      obtain ⟨hw, l, dx, fv, r1, r2, r3, r4, r5⟩ := h2
      refine ⟨hw, l, dx, fv, r1, r2, r3, ?_, r5.ext ex⟩
      rw [upd_ne (fun e : l = p => nb (by rw [← e]; exact r3))]
      exact r4
  · by_cases e : a = p
    · rw [e, upd_same]
      exact fun z => by cases z
    · rw [upd_ne e]
      exact L.en.al a ha
  · rw [upd_ne (fun e => by rw [e, L.h0] at ha; cases ha)]
    exact L.en.ext a o n ha
  · refine C.m.st C.H0 H _ L.en.ok.i0 L.en.inv fun a ha => ?_
    rw [upd_ne (fun e : a = p => ha (by rw [e]; exact L.h0))]
  · rw [upd_ne (fun e => by rw [e, hb] at ha; cases ha)]
    exact L.ext a o n ha
theorem lc_turn {p : Addr} {j : Nat} {acc : List D} {x : D} {v : V} {B0 : Hp} {W : List D → Prop} {Nx : Hp → Prop} (L : LcAt C fz M δ σ B0 p acc H) (hb0 : B0 p = none) (no : ∀ (i : Nat) s, δ[i]? = some s → s.mut → σ[i]? ≠ some (some (.ref p)))
    (hj : ∀ c fs, δ[j]? ≠ some (.new c fs)) (hx : Dt C.K (fun a => M a ∨ a = p) H v x) (hl : acc.length < 100000)
    (h : EvT C tt (δ.set j (.d x)) fun b => (b = true → EvD C te (δ.set j (.d x)) fun y => W (acc ++ [y])) ∧ (b = false → W acc))
    (k : ∀ acc' H', W acc' → LcAt C fz M δ σ B0 p acc' H' → Nx H') :
    (gName j) v (wipe σ [j]) H fun σ2 H2 => wipe σ2 [j] = wipe σ [j] ∧ tt σ2 H2 fun b H3 =>
      if b = true then te σ2 H3 fun y H4 => ∃ ac, H4 p = some (.lst ac) ∧ ac.length < sizeLine ∧ Nx (upd H4 p (.lst (ac ++ [y]))) else Nx H3 := by
  have e1 := L.en.putD (i := j) hx
  have nb : ¬ C.m.B p := L.en.nb L.h0
  have es : (wipe σ [j]).set j (some v) = σ.set j (some v) := by
    show (σ.set j none).set j (some v) = _
    rw [List.set_set]
  show wipe ((wipe σ [j]).set j (some v)) [j] = wipe σ [j] ∧ _
  refine ⟨wipe_back, ?_⟩
  rw [es]
  refine h fz _ _ H e1 _ fun b H3 hb e3 x3 => ?_
  obtain ⟨vs, hp, dl⟩ := L.at_
  cases b with
  | true =>
    refine hb.1 rfl fz _ _ H3 e3 _ fun y w H4 q e4 x4 dw => ?_
    have xx := x3.trans x4
    have hp4 : H4 p = some (.lst vs) := xx p _ nb hp
    have E4 := L.en.back e4 xx hj
    have dl4 := dl.ext (xx.mono E4.b)
    have L4 : LcAt C fz M δ σ B0 p acc H4 := ⟨E4, L.h0, L.ext.trans xx, vs, hp4, dl4⟩
    exact ⟨vs, hp4, by rw [dl.length]; exact Nat.lt_of_lt_of_le hl (by decide), k _ _ q (L4.upd hb0 no (dl4.append (.cons dw .nil)))⟩
  | false =>
    have E3 := L.en.back e3 x3 hj
    exact k acc H3 (hb.2 rfl) ⟨E3, L.h0, L.ext.trans x3, vs, x3 p _ nb hp, dl.ext (x3.mono E3.b)⟩
theorem LcAt.start {p : Addr} (e1 : Env C fz M δ σ H) (hp : H p = none) : LcAt C fz M δ σ H p [] (L2.upd H p (.lst [])) ∧ ∀ (i : Nat) s, δ[i]? = some s → s.mut → σ[i]? ≠ some (some (.ref p)) :=
  ⟨⟨e1.plus hp (same_new hp) upd_same, e1.fresh hp, .of_same (same_new hp), [], upd_same, .nil⟩, fun i s hi hm z => by
    obtain ⟨l, h1, h2⟩ := e1.mref hi hm
    rw [h1] at z
    cases z
    exact e1.nm hp h2⟩
theorem back_none {p : Addr} {H1 : Hp} (en : Env C fz M δ σ H) (x1 : Ext C.m.B H H1) (hp : H1 p = none) (e1 : Env C fz M δ σ H1) : H p = none := by
  cases q : H p with
  | none => rfl
  | some o =>
    by_cases b : C.m.B p
    · exact absurd hp (C.m.al H1 p e1.inv b)
    · rw [x1 p o b q] at hp
      cases hp
/-- [.. for x in range(n) if ..] -/
theorem en_lcR {ta : TA} {n : Int} {j : Nat} {Φ : List D → Prop} (W : Nat → List D → Prop) (h : EvA C ta δ fun ds => ds = [.int n]) (hn : n ≤ 99999 ∧ -(2 ^ 61) ≤ n) (hj : ∀ c fs, δ[j]? ≠ some (.new c fs)) (h0 : W 0 [])
    (hs : ∀ (k : Nat) acc, k < n.toNat → W k acc → EvT C tt (δ.set j (.d (.int (k : Int)))) fun b => (b = true → EvD C te (δ.set j (.d (.int (k : Int)))) fun y => W (k + 1) (acc ++ [y])) ∧ (b = false → W (k + 1) acc))
    (hd : ∀ acc, W n.toNat acc → Φ acc) : EvN C (tLc (iRng1 ta) (gName j) tt te [j]) δ Φ := fun fz M σ H en Q kk =>
  h fz M σ H en _ fun ds vs H1 e e1 x1 d1 => by
    subst e
    cases d1 with
    | cons a b =>
      cases a
      cases b
      refine ⟨n, rfl, by omega, by omega, fun p hp => ?_⟩
      obtain ⟨L0, no⟩ := LcAt.start e1 hp
      refine lc_range (lo := 0) (n := n.toNat) (fun k H' => k ≤ n.toNat ∧ ∃ acc, acc.length ≤ k ∧ W k acc ∧ LcAt C fz M δ σ H1 p acc H') ⟨Nat.zero_le _, [], Nat.le_refl _, h0, L0⟩ (fun k H' hk ⟨_, acc, la, w, L⟩ => ?_) fun H' ⟨_, acc, la, w, L⟩ => ?_
      · have z : (0 : Int) + (k : Int) = (k : Int) := Int.zero_add _
        rw [z]
        refine lc_turn (W := fun acc' => acc'.length ≤ k + 1 ∧ W (k + 1) acc') L hp no hj (.int _) (by omega) ?_ fun acc' H'' ⟨la', w'⟩ L' => ⟨hk, acc', la', w', L'⟩
        intro fz' M' σ' H' en' Q' k'
        refine hs k acc hk w fz' M' σ' H' en' Q' fun b H'' hb e' x' => k' b H'' ⟨fun hbt => ?_, fun hbf => ⟨by omega, hb.2 hbf⟩⟩ e' x'
        exact (hb.1 hbt).mono fun y wy => ⟨by rw [List.length_append]; exact Nat.add_le_add_right la 1, wy⟩
      · obtain ⟨vs, hv, dl⟩ := L.at_
        exact kk acc p vs H' (hd acc w) (back_none en x1 hp e1) L.en (x1.trans L.ext) hv dl
/-- [.. for x in a list if ..] -/
theorem en_lcL {K : PySem.W.Frag} (hK : K = C.K) {tl : TE} {ds : List D} {j : Nat} {Φ : List D → Prop} (W : Nat → List D → Prop) (h : EvD C tl δ fun d => d = .lst ds) (hn : ds.length ≤ 99999) (hj : ∀ c fs, δ[j]? ≠ some (.new c fs)) (h0 : W 0 [])
    (hs : ∀ (k : Nat) x acc, ds[k]? = some x → W k acc → EvT C tt (δ.set j (.d x)) fun b => (b = true → EvD C te (δ.set j (.d x)) fun y => W (k + 1) (acc ++ [y])) ∧ (b = false → W (k + 1) acc))
    (hd : ∀ acc, W ds.length acc → Φ acc) : EvN C (tLc (iList K tl) (gName j) tt te [j]) δ Φ := fun fz M σ H en Q kk =>
  h fz M σ H en _ fun d v H1 e e1 x1 d1 => by
    subst hK
    subst e
    obtain ⟨a, rfl⟩ : ∃ a, v = .ref a := by cases d1; exact ⟨_, rfl⟩
    have e1' := e1.fz1 d1
    obtain ⟨vs, sq, _⟩ := e1'.sq
    refine ⟨a, rfl, ⟨vs, sq⟩, fun p hp => ?_⟩
    obtain ⟨L0, no⟩ := LcAt.start e1' hp
    refine ⟨fun i m H' => m = ds.length - i ∧ i ≤ ds.length ∧ ∃ acc, acc.length ≤ i ∧ W i acc ∧ LcAt C ((.ref a, .lst ds) :: fz) M δ σ H1 p acc H', ⟨_, rfl, Nat.zero_le _, [], Nat.le_refl _, h0, L0⟩, ?_⟩
    rintro i m H' ⟨rfl, hi, acc, la, w, L⟩
    obtain ⟨us, sq', dl⟩ := L.en.sq
    have el := dl.length
    by_cases hlt : i < ds.length
    · refine .inr ⟨⟨us, us[i]'(by omega), sq', by simp⟩, fun H2 => ∃ acc', acc'.length ≤ i + 1 ∧ W (i + 1) acc' ∧ LcAt C ((.ref a, .lst ds) :: fz) M δ σ H1 p acc' H2, fun H2 ⟨acc', la', w', L'⟩ => ⟨_, by omega, rfl, hlt, acc', la', w', L'⟩, fun x H2 ⟨eq, hx⟩ => ?_⟩
      subst eq
      obtain ⟨d, hd1, hd2⟩ := dtl_at dl (hx us sq')
      refine lc_turn (W := fun acc' => acc'.length ≤ i + 1 ∧ W (i + 1) acc') L hp no hj hd2 (by omega) ?_ fun acc' H'' ⟨la', w'⟩ L' => ⟨acc', la', w', L'⟩
      intro fz' M' σ' H' en' Q' k'
      refine hs i d acc hd1 w fz' M' σ' H' en' Q' fun b H'' hb e' x' => k' b H'' ⟨fun hbt => ?_, fun hbf => ⟨by omega, hb.2 hbf⟩⟩ e' x'
      exact (hb.1 hbt).mono fun y wy => ⟨by rw [List.length_append]; exact Nat.add_le_add_right la 1, wy⟩
    · refine .inl ⟨⟨us, sq', by omega⟩, ?_⟩
      have ei : i = ds.length := by omega
      obtain ⟨ws, hv, dl2⟩ := L.at_
      exact kk acc p ws H' (hd acc (by rw [← ei]; exact w)) (back_none en x1 hp e1) L.en.fz0 (x1.trans L.ext) hv dl2
/-- .. a tuple -/
theorem en_lcT {K : PySem.W.Frag} (hK : K = C.K) {tl : TE} {ds : List D} {j : Nat} {Φ : List D → Prop} (W : Nat → List D → Prop) (h : EvD C tl δ fun d => d = .tup ds) (hn : ds.length ≤ 99999) (hj : ∀ c fs, δ[j]? ≠ some (.new c fs)) (h0 : W 0 [])
    (hs : ∀ (k : Nat) x acc, ds[k]? = some x → W k acc → EvT C tt (δ.set j (.d x)) fun b => (b = true → EvD C te (δ.set j (.d x)) fun y => W (k + 1) (acc ++ [y])) ∧ (b = false → W (k + 1) acc))
    (hd : ∀ acc, W ds.length acc → Φ acc) : EvN C (tLc (iTup K tl) (gName j) tt te [j]) δ Φ := fun fz M σ H en Q kk =>
  h fz M σ H en _ fun d v H1 e e1 x1 d1 => by
    subst hK
    subst e
    obtain ⟨a, rfl⟩ : ∃ a, v = .ref a := by cases d1 <;> exact ⟨_, rfl⟩
    have e1' := e1.fz1 d1
    obtain ⟨vs, sq, _⟩ := e1'.st
    refine ⟨a, rfl, ⟨vs, sq⟩, fun p hp => ?_⟩
    obtain ⟨L0, no⟩ := LcAt.start e1' hp
    refine ⟨fun i m H' => m = ds.length - i ∧ i ≤ ds.length ∧ ∃ acc, acc.length ≤ i ∧ W i acc ∧ LcAt C ((.ref a, .tup ds) :: fz) M δ σ H1 p acc H', ⟨_, rfl, Nat.zero_le _, [], Nat.le_refl _, h0, L0⟩, ?_⟩
    rintro i m H' ⟨rfl, hi, acc, la, w, L⟩
    obtain ⟨us, sq', dl⟩ := L.en.st
    have el := dl.length
    by_cases hlt : i < ds.length
    · refine .inr ⟨⟨us, us[i]'(by omega), sq', by simp⟩, fun H2 => ∃ acc', acc'.length ≤ i + 1 ∧ W (i + 1) acc' ∧ LcAt C ((.ref a, .tup ds) :: fz) M δ σ H1 p acc' H2, fun H2 ⟨acc', la', w', L'⟩ => ⟨_, by omega, rfl, hlt, acc', la', w', L'⟩, fun x H2 ⟨eq, hx⟩ => ?_⟩
      subst eq
      obtain ⟨d, hd1, hd2⟩ := dtl_at dl (hx us sq')
      refine lc_turn (W := fun acc' => acc'.length ≤ i + 1 ∧ W (i + 1) acc') L hp no hj hd2 (by omega) ?_ fun acc' H'' ⟨la', w'⟩ L' => ⟨acc', la', w', L'⟩
      intro fz' M' σ' H' en' Q' k'
      refine hs i d acc hd1 w fz' M' σ' H' en' Q' fun b H'' hb e' x' => k' b H'' ⟨fun hbt => ?_, fun hbf => ⟨by omega, hb.2 hbf⟩⟩ e' x'
      exact (hb.1 hbt).mono fun y wy => ⟨by rw [List.length_append]; exact Nat.add_le_add_right la 1, wy⟩
    · refine .inl ⟨⟨us, sq', by omega⟩, ?_⟩
      have ei : i = ds.length := by omega
      obtain ⟨ws, hv, dl2⟩ := L.at_
      exact kk acc p ws H' (hd acc (by rw [← ei]; exact w)) (back_none en x1 hp e1) L.en.fz0 (x1.trans L.ext) hv dl2
end
end Wn
end

section
/-! Operations by values, over trees. -/
namespace Wn
open PySem PySem.Spec PyProof.Rows L2

/-! ### trees as the library's data -/
mutual
def D.py : D → PyData
  | .bl b => .bool b
  | .int i => .int i
  | .str x => .str x
  | .lst xs => .list (D.pys xs)
  | .tup xs => .tuple (D.pys xs)
  | _ => .none
def D.pys : List D → List PyData
  | [] => []
  | x :: xs => D.py x :: D.pys xs
end
mutual
/-- plain data: small ints, texts of signs, lists and tuples of such, n deep at most -/
def D.ok : Nat → D → Bool
  | _, .non => true
  | _, .bl _ => true
  | _, .int i => decide (i.natAbs.log2 < 1920)
  | _, .str x => PyData.strOk x
  | 0, _ => false
  | n + 1, .lst xs => D.oks n xs
  | n + 1, .tup xs => D.oks n xs
  | _, _ => false
def D.oks : Nat → List D → Bool
  | _, [] => true
  | n, x :: xs => D.ok n x && D.oks n xs
end
mutual
/-- how many parts it has -/
def D.wt : D → Nat
  | .str x => x.length
  | .lst xs => D.wts xs
  | .tup xs => D.wts xs
  | _ => 0
def D.wts : List D → Nat
  | [] => 0
  | x :: xs => D.wt x + 1 + D.wts xs
end
theorem ok_shape (n : Nat) (xs : List D) (h : D.ok n (.lst xs) = true) : ∃ m, n = m + 1 ∧ D.oks m xs = true := by
  cases n with
  | zero => simp [D.ok] at h
  | succ m => exact ⟨m, rfl, by simpa [D.ok] using h⟩
theorem ok_shapeT (n : Nat) (xs : List D) (h : D.ok n (.tup xs) = true) : ∃ m, n = m + 1 ∧ D.oks m xs = true := by
  cases n with
  | zero => simp [D.ok] at h
  | succ m => exact ⟨m, rfl, by simpa [D.ok] using h⟩
section
variable {K : PySem.W.Frag} {M : Addr → Prop} {H : Hp}
mutual
theorem Dt.dp : ∀ {n : Nat} {v : V} {d : D}, D.ok n d = true → Dt K M H v d → Dp K H v d.py
  | _, _, _, _, .non => .non
  | _, _, _, _, .bl b => .bl b
  | _, _, _, _, .int i => .int i
  | _, _, _, _, .str x => .str x
  | n, _, _, h, .lst _ h1 h2 => by
    obtain ⟨m, rfl, h'⟩ := ok_shape _ _ h
    exact .lst (SqL.of h1) (DtL.dp h' h2)
  | n, _, _, h, .tup _ h1 h2 => by
    obtain ⟨m, rfl, h'⟩ := ok_shapeT _ _ h
    exact .tup (.inl h1) (DtL.dp h' h2)
  | n, _, _, h, .ktup h1 h2 => by
    obtain ⟨m, rfl, h'⟩ := ok_shapeT _ _ h
    exact .tup (h1 H) (DtL.dp h' h2)
  | n, _, .adr a, h, _ => by cases n <;> simp [D.ok] at h
  | n, _, .ty a, h, _ => by cases n <;> simp [D.ok] at h
  | n, _, .obj _ _, h, _ => by cases n <;> simp [D.ok] at h
  | n, _, .dct _, h, _ => by cases n <;> simp [D.ok] at h
  | n, _, .pin _ _, h, _ => by cases n <;> simp [D.ok] at h
theorem DtL.dp : ∀ {n : Nat} {vs : List V} {ds : List D}, D.oks n ds = true → DtL K M H vs ds → DpAll K H vs (D.pys ds)
  | _, _, _, _, .nil => .nil
  | n, _, d :: ds, h, .cons h1 h2 => by
    have h' : D.ok n d = true ∧ D.oks n ds = true := by simpa [D.oks] using h
    exact .cons (Dt.dp h'.1 h1) (DtL.dp h'.2 h2)
end
end
mutual
theorem ok_can : ∀ (n : Nat) (d : D), D.ok n d = true → d.py.canLay0 = true
  | n, .non, _ => by simp [D.py, PyData.canLay0]
  | n, .bl b, _ => by simp [D.py, PyData.canLay0]
  | n, .int i, _ => by simp [D.py, PyData.canLay0]
  | n, .str x, h => by
    have h' : PyData.strOk x = true := by cases n <;> simpa [D.ok] using h
    simpa [D.py, PyData.canLay0] using h'
  | 0, .lst xs, h => by simp [D.ok] at h
  | n + 1, .lst xs, h => by
    have := oks_can n xs (by simpa [D.ok] using h)
    simpa [D.py, PyData.canLay0] using this
  | 0, .tup xs, h => by simp [D.ok] at h
  | n + 1, .tup xs, h => by
    have := oks_can n xs (by simpa [D.ok] using h)
    simpa [D.py, PyData.canLay0] using this
  | n, .adr a, h => by simp [D.py, PyData.canLay0]
  | n, .ty a, h => by simp [D.py, PyData.canLay0]
  | n, .obj _ _, h => by simp [D.py, PyData.canLay0]
  | n, .dct _, h => by simp [D.py, PyData.canLay0]
  | n, .pin _ _, h => by simp [D.py, PyData.canLay0]
theorem oks_can : ∀ (n : Nat) (ds : List D), D.oks n ds = true → PyData.canLayAll0 (D.pys ds) = true
  | _, [], _ => by simp [D.pys, PyData.canLayAll0]
  | n, x :: xs, h => by
    have h' : D.ok n x = true ∧ D.oks n xs = true := by simpa [D.oks] using h
    simp [D.pys, PyData.canLayAll0, ok_can n x h'.1, oks_can n xs h'.2]
end
mutual
theorem ok_show : ∀ (n : Nat) (d : D), D.ok n d = true → d.py.showable = true
  | n, .non, _ => by simp [D.py, PyData.showable]
  | n, .bl b, _ => by simp [D.py, PyData.showable]
  | n, .int i, h => by
    have h' : i.natAbs.log2 < 1920 := by cases n <;> simpa [D.ok] using h
    simpa [D.py, PyData.showable] using h'
  | n, .str x, h => by simp [D.py, PyData.showable]
  | 0, .lst xs, h => by simp [D.ok] at h
  | n + 1, .lst xs, h => by
    have := oks_show n xs (by simpa [D.ok] using h)
    simpa [D.py, PyData.showable] using this
  | 0, .tup xs, h => by simp [D.ok] at h
  | n + 1, .tup xs, h => by
    have := oks_show n xs (by simpa [D.ok] using h)
    simpa [D.py, PyData.showable] using this
  | n, .adr a, h => by simp [D.py, PyData.showable]
  | n, .ty a, h => by simp [D.py, PyData.showable]
  | n, .obj _ _, h => by simp [D.py, PyData.showable]
  | n, .dct _, h => by simp [D.py, PyData.showable]
  | n, .pin _ _, h => by simp [D.py, PyData.showable]
theorem oks_show : ∀ (n : Nat) (ds : List D), D.oks n ds = true → PyData.showableAll (D.pys ds) = true
  | _, [], _ => by simp [D.pys, PyData.showableAll]
  | n, x :: xs, h => by
    have h' : D.ok n x = true ∧ D.oks n xs = true := by simpa [D.oks] using h
    simp [D.pys, PyData.showableAll, ok_show n x h'.1, oks_show n xs h'.2]
end
mutual
theorem ok_depth : ∀ (n : Nat) (d : D), D.ok n d = true → d.py.depth ≤ n
  | n, .non, _ => by simp [D.py, PyData.depth]
  | n, .bl b, _ => by simp [D.py, PyData.depth]
  | n, .int i, h => by simp [D.py, PyData.depth]
  | n, .str x, h => by simp [D.py, PyData.depth]
  | 0, .lst xs, h => by simp [D.ok] at h
  | n + 1, .lst xs, h => by
    have := oks_depth n xs (by simpa [D.ok] using h)
    simp only [D.py, PyData.depth]
    omega
  | 0, .tup xs, h => by simp [D.ok] at h
  | n + 1, .tup xs, h => by
    have := oks_depth n xs (by simpa [D.ok] using h)
    simp only [D.py, PyData.depth]
    omega
  | n, .adr a, h => by simp [D.py, PyData.depth]
  | n, .ty a, h => by simp [D.py, PyData.depth]
  | n, .obj _ _, h => by simp [D.py, PyData.depth]
  | n, .dct _, h => by simp [D.py, PyData.depth]
  | n, .pin _ _, h => by simp [D.py, PyData.depth]
theorem oks_depth : ∀ (n : Nat) (ds : List D), D.oks n ds = true → PyData.depthAll (D.pys ds) ≤ n
  | _, [], _ => by simp [D.pys, PyData.depthAll]
  | n, x :: xs, h => by
    have h' : D.ok n x = true ∧ D.oks n xs = true := by simpa [D.oks] using h
    have h1 := ok_depth n x h'.1
    have h2 := oks_depth n xs h'.2
    simp only [D.pys, PyData.depthAll]
    omega
end

mutual
theorem ok_bulk : ∀ d : D, d.py.bulk ≤ d.wt
  | .non => by simp [D.py, PyData.bulk]
  | .bl b => by simp [D.py, PyData.bulk]
  | .int i => by simp [D.py, PyData.bulk]
  | .str x => by simp [D.py, PyData.bulk, D.wt, Str.length]
  | .lst xs => by simpa [D.py, PyData.bulk, D.wt] using oks_bulk xs
  | .tup xs => by simpa [D.py, PyData.bulk, D.wt] using oks_bulk xs
  | .adr a => by simp [D.py, PyData.bulk]
  | .ty a => by simp [D.py, PyData.bulk]
  | .obj _ _ => by simp [D.py, PyData.bulk]
  | .dct _ => by simp [D.py, PyData.bulk]
  | .pin _ _ => by simp [D.py, PyData.bulk]
theorem oks_bulk : ∀ ds : List D, PyData.bulkAll (D.pys ds) ≤ D.wts ds
  | [] => by simp [D.pys, PyData.bulkAll]
  | x :: xs => by
    have h1 := ok_bulk x
    have h2 := oks_bulk xs
    simp only [D.pys, PyData.bulkAll, D.wts]
    omega
end
theorem cps_short {x : Str} (h : PyData.strOk x = true) : ∀ c ∈ x.cps.toList, c < 16 ^ 8 := fun c hc => by
  have h1 : x.cps.all (· < 0x110000) = true := h
  rw [Array.all_eq_true_iff_forall_mem] at h1
  have := of_decide_eq_true (h1 c (Array.mem_toList_iff.mp hc))
  omega
mutual
theorem ok_short : ∀ (n : Nat) (d : D), D.ok n d = true → d.py.leavesShort 1930 = true
  | n, .non, _ => by simp [D.py, PyData.leavesShort]
  | n, .bl b, _ => by simp [D.py, PyData.leavesShort]
  | n, .int i, h => by
    have h' : i.natAbs.log2 < 1920 := by cases n <;> simpa [D.ok] using h
    have e := int_text_len_1921 h'
    have e2 : (PyData.shown (.int i)).length ≤ 1930 := by
      show (PySem.Str.ofString (toString i)).length ≤ 1930
      omega
    simpa [D.py, PyData.leavesShort] using e2
  | n, .str x, h => by
    have h' : PyData.strOk x = true := by cases n <;> simpa [D.ok] using h
    have e := cps_short h'
    show (x.cps.toList.all fun c => decide (c < 16 ^ 8)) = true
    rw [List.all_eq_true]
    exact fun c hc => decide_eq_true (e c hc)
  | 0, .lst xs, h => by simp [D.ok] at h
  | n + 1, .lst xs, h => by
    have := oks_short n xs (by simpa [D.ok] using h)
    simpa [D.py, PyData.leavesShort] using this
  | 0, .tup xs, h => by simp [D.ok] at h
  | n + 1, .tup xs, h => by
    have := oks_short n xs (by simpa [D.ok] using h)
    simpa [D.py, PyData.leavesShort] using this
  | n, .adr a, h => by simp [D.py, PyData.leavesShort]
  | n, .ty a, h => by simp [D.py, PyData.leavesShort]
  | n, .obj _ _, h => by simp [D.py, PyData.leavesShort]
  | n, .dct _, h => by simp [D.py, PyData.leavesShort]
  | n, .pin _ _, h => by simp [D.py, PyData.leavesShort]
theorem oks_short : ∀ (n : Nat) (ds : List D), D.oks n ds = true → PyData.leavesShortAll 1930 (D.pys ds) = true
  | _, [], _ => by simp [D.pys, PyData.leavesShortAll]
  | n, x :: xs, h => by
    have h' : D.ok n x = true ∧ D.oks n xs = true := by simpa [D.oks] using h
    simp [D.pys, PyData.leavesShortAll, ok_short n x h'.1, oks_short n xs h'.2]
end
/-- data whose text is within the line -/
structure Fit (d : D) : Prop where
  ok : D.ok 30 d = true
  wt : d.wt ≤ 8000
theorem Fit.size {d : D} (h : Fit d) : d.py.shown.length ≤ sizeLine := by
  have h1 := PyData.shown_le_bulk 1930 (by decide) d.py (ok_short 30 d h.ok)
  have h2 := ok_bulk d
  have h3 := h.wt
  have h4 : (1930 + 2) * d.py.bulk ≤ 1932 * 8000 := Nat.mul_le_mul (by omega) (by omega)
  rw [sizeLine_eq]
  omega
theorem Fit.noDict {d : D} (h : Fit d) : d.py.hasDict = false := PyData.hasDict_of_canLay _ (ok_can 30 d h.ok)
theorem Fit.shaped {d : D} (h : Fit d) : SeqAt.shaped d.py = true := by
  have h1 := ok_can 30 d h.ok
  have h2 := ok_depth 30 d h.ok
  unfold SeqAt.shaped
  rw [h1, decide_eq_true (by omega : d.py.depth ≤ 64)]
  rfl
/-! ### data with dicts (keys: texts), for repr -/
mutual
def D.pyR : D → PyData
  | .bl b => .bool b
  | .int i => .int i
  | .str x => .str x
  | .lst xs => .list (D.pyRs xs)
  | .tup xs => .tuple (D.pyRs xs)
  | .dct fs => .dict (D.pyRf fs)
  | _ => .none
def D.pyRs : List D → List PyData
  | [] => []
  | x :: xs => D.pyR x :: D.pyRs xs
def D.pyRf : List (Str × D) → List (PyData × PyData)
  | [] => []
  | (f, x) :: xs => (.str f, D.pyR x) :: D.pyRf xs
end
mutual
def D.okR : Nat → D → Bool
  | _, .non => true
  | _, .bl _ => true
  | _, .int i => decide (i.natAbs.log2 < 1920)
  | _, .str x => PyData.strOk x
  | 0, _ => false
  | n + 1, .lst xs => D.okRs n xs
  | n + 1, .tup xs => D.okRs n xs
  | n + 1, .dct fs => D.okRf n fs
  | _, _ => false
def D.okRs : Nat → List D → Bool
  | _, [] => true
  | n, x :: xs => D.okR n x && D.okRs n xs
def D.okRf : Nat → List (Str × D) → Bool
  | _, [] => true
  | n, (f, x) :: xs => PyData.strOk f && D.okR n x && D.okRf n xs
end
mutual
def D.wtR : D → Nat
  | .str x => x.length
  | .lst xs => D.wtRs xs
  | .tup xs => D.wtRs xs
  | .dct fs => D.wtRf fs
  | _ => 0
def D.wtRs : List D → Nat
  | [] => 0
  | x :: xs => D.wtR x + 1 + D.wtRs xs
def D.wtRf : List (Str × D) → Nat
  | [] => 0
  | (f, x) :: xs => f.length + D.wtR x + 2 + D.wtRf xs
end
theorem pyRs_len : ∀ xs : List D, (D.pyRs xs).length = xs.length
  | [] => rfl
  | x :: xs => by simp [D.pyRs, pyRs_len xs]
mutual
theorem okR_show : ∀ (n : Nat) (d : D), D.okR n d = true → d.pyR.showable = true
  | n, .non, _ => by simp [D.pyR, PyData.showable]
  | n, .bl b, _ => by simp [D.pyR, PyData.showable]
  | n, .int i, h => by
    have h' : i.natAbs.log2 < 1920 := by cases n <;> simpa [D.okR] using h
    simpa [D.pyR, PyData.showable] using h'
  | n, .str x, h => by simp [D.pyR, PyData.showable]
  | 0, .lst xs, h => by simp [D.okR] at h
  | n + 1, .lst xs, h => by
    have := okRs_show n xs (by simpa [D.okR] using h)
    simpa [D.pyR, PyData.showable] using this
  | 0, .tup xs, h => by simp [D.okR] at h
  | n + 1, .tup xs, h => by
    have := okRs_show n xs (by simpa [D.okR] using h)
    simpa [D.pyR, PyData.showable] using this
  | 0, .dct xs, h => by simp [D.okR] at h
  | n + 1, .dct xs, h => by
    have := okRf_show n xs (by simpa [D.okR] using h)
    simpa [D.pyR, PyData.showable] using this
  | n, .adr a, h => by simp [D.pyR, PyData.showable]
  | n, .ty a, h => by simp [D.pyR, PyData.showable]
  | n, .obj _ _, h => by simp [D.pyR, PyData.showable]
  | n, .pin _ _, h => by simp [D.pyR, PyData.showable]
theorem okRs_show : ∀ (n : Nat) (ds : List D), D.okRs n ds = true → PyData.showableAll (D.pyRs ds) = true
  | _, [], _ => by simp [D.pyRs, PyData.showableAll]
  | n, x :: xs, h => by
    have h' : D.okR n x = true ∧ D.okRs n xs = true := by simpa [D.okRs] using h
    simp [D.pyRs, PyData.showableAll, okR_show n x h'.1, okRs_show n xs h'.2]
theorem okRf_show : ∀ (n : Nat) (ds : List (Str × D)), D.okRf n ds = true → PyData.showableKv (D.pyRf ds) = true
  | _, [], _ => by simp [D.pyRf, PyData.showableKv]
  | n, (f, x) :: xs, h => by
    have h' : (PyData.strOk f = true ∧ D.okR n x = true) ∧ D.okRf n xs = true := by simpa [D.okRf] using h
    simp [D.pyRf, PyData.showableKv, PyData.showable, okR_show n x h'.1.2, okRf_show n xs h'.2]
end
mutual
theorem okR_depth : ∀ (n : Nat) (d : D), D.okR n d = true → d.pyR.depth ≤ n
  | n, .non, _ => by simp [D.pyR, PyData.depth]
  | n, .bl b, _ => by simp [D.pyR, PyData.depth]
  | n, .int i, h => by simp [D.pyR, PyData.depth]
  | n, .str x, h => by simp [D.pyR, PyData.depth]
  | 0, .lst xs, h => by simp [D.okR] at h
  | n + 1, .lst xs, h => by
    have := okRs_depth n xs (by simpa [D.okR] using h)
    simp only [D.pyR, PyData.depth]
    omega
  | 0, .tup xs, h => by simp [D.okR] at h
  | n + 1, .tup xs, h => by
    have := okRs_depth n xs (by simpa [D.okR] using h)
    simp only [D.pyR, PyData.depth]
    omega
  | 0, .dct xs, h => by simp [D.okR] at h
  | n + 1, .dct xs, h => by
    have := okRf_depth n xs (by simpa [D.okR] using h)
    simp only [D.pyR, PyData.depth]
    omega
  | n, .adr a, h => by simp [D.pyR, PyData.depth]
  | n, .ty a, h => by simp [D.pyR, PyData.depth]
  | n, .obj _ _, h => by simp [D.pyR, PyData.depth]
  | n, .pin _ _, h => by simp [D.pyR, PyData.depth]
theorem okRs_depth : ∀ (n : Nat) (ds : List D), D.okRs n ds = true → PyData.depthAll (D.pyRs ds) ≤ n
  | _, [], _ => by simp [D.pyRs, PyData.depthAll]
  | n, x :: xs, h => by
    have h' : D.okR n x = true ∧ D.okRs n xs = true := by simpa [D.okRs] using h
    have h1 := okR_depth n x h'.1
    have h2 := okRs_depth n xs h'.2
    simp only [D.pyRs, PyData.depthAll]
    omega
theorem okRf_depth : ∀ (n : Nat) (ds : List (Str × D)), D.okRf n ds = true → PyData.depthKv (D.pyRf ds) ≤ n
  | _, [], _ => by simp [D.pyRf, PyData.depthKv]
  | n, (f, x) :: xs, h => by
    have h' : (PyData.strOk f = true ∧ D.okR n x = true) ∧ D.okRf n xs = true := by simpa [D.okRf] using h
    have h1 := okR_depth n x h'.1.2
    have h2 := okRf_depth n xs h'.2
    simp only [D.pyRf, PyData.depthKv, PyData.depth]
    omega
end
mutual
theorem okR_bulk : ∀ d : D, d.pyR.bulk ≤ d.wtR
  | .non => by simp [D.pyR, PyData.bulk]
  | .bl b => by simp [D.pyR, PyData.bulk]
  | .int i => by simp [D.pyR, PyData.bulk]
  | .str x => by simp [D.pyR, PyData.bulk, D.wtR, Str.length]
  | .lst xs => by simpa [D.pyR, PyData.bulk, D.wtR] using okRs_bulk xs
  | .tup xs => by simpa [D.pyR, PyData.bulk, D.wtR] using okRs_bulk xs
  | .dct xs => by simpa [D.pyR, PyData.bulk, D.wtR] using okRf_bulk xs
  | .adr a => by simp [D.pyR, PyData.bulk]
  | .ty a => by simp [D.pyR, PyData.bulk]
  | .obj _ _ => by simp [D.pyR, PyData.bulk]
  | .pin _ _ => by simp [D.pyR, PyData.bulk]
theorem okRs_bulk : ∀ ds : List D, PyData.bulkAll (D.pyRs ds) ≤ D.wtRs ds
  | [] => by simp [D.pyRs, PyData.bulkAll]
  | x :: xs => by
    have h1 := okR_bulk x
    have h2 := okRs_bulk xs
    simp only [D.pyRs, PyData.bulkAll, D.wtRs]
    omega
theorem okRf_bulk : ∀ ds : List (Str × D), PyData.bulkKv (D.pyRf ds) ≤ D.wtRf ds
  | [] => by simp [D.pyRf, PyData.bulkKv]
  | (f, x) :: xs => by
    have h1 := okR_bulk x
    have h2 := okRf_bulk xs
    have e : f.length = f.cps.size := rfl
    simp only [D.pyRf, PyData.bulkKv, PyData.bulk, D.wtRf]
    omega
end
mutual
theorem okR_short : ∀ (n : Nat) (d : D), D.okR n d = true → d.pyR.leavesShort 1930 = true
  | n, .non, _ => by simp [D.pyR, PyData.leavesShort]
  | n, .bl b, _ => by simp [D.pyR, PyData.leavesShort]
  | n, .int i, h => by
    have h' : i.natAbs.log2 < 1920 := by cases n <;> simpa [D.okR] using h
    have e := int_text_len_1921 h'
    have e2 : (PyData.shown (.int i)).length ≤ 1930 := by
      show (PySem.Str.ofString (toString i)).length ≤ 1930
      omega
    simpa [D.pyR, PyData.leavesShort] using e2
  | n, .str x, h => by
    have h' : PyData.strOk x = true := by cases n <;> simpa [D.okR] using h
    have e := cps_short h'
    show (x.cps.toList.all fun c => decide (c < 16 ^ 8)) = true
    rw [List.all_eq_true]
    exact fun c hc => decide_eq_true (e c hc)
  | 0, .lst xs, h => by simp [D.okR] at h
  | n + 1, .lst xs, h => by
    have := okRs_short n xs (by simpa [D.okR] using h)
    simpa [D.pyR, PyData.leavesShort] using this
  | 0, .tup xs, h => by simp [D.okR] at h
  | n + 1, .tup xs, h => by
    have := okRs_short n xs (by simpa [D.okR] using h)
    simpa [D.pyR, PyData.leavesShort] using this
  | 0, .dct xs, h => by simp [D.okR] at h
  | n + 1, .dct xs, h => by
    have := okRf_short n xs (by simpa [D.okR] using h)
    simpa [D.pyR, PyData.leavesShort] using this
  | n, .adr a, h => by simp [D.pyR, PyData.leavesShort]
  | n, .ty a, h => by simp [D.pyR, PyData.leavesShort]
  | n, .obj _ _, h => by simp [D.pyR, PyData.leavesShort]
  | n, .pin _ _, h => by simp [D.pyR, PyData.leavesShort]
theorem okRs_short : ∀ (n : Nat) (ds : List D), D.okRs n ds = true → PyData.leavesShortAll 1930 (D.pyRs ds) = true
  | _, [], _ => by simp [D.pyRs, PyData.leavesShortAll]
  | n, x :: xs, h => by
    have h' : D.okR n x = true ∧ D.okRs n xs = true := by simpa [D.okRs] using h
    simp [D.pyRs, PyData.leavesShortAll, okR_short n x h'.1, okRs_short n xs h'.2]
theorem okRf_short : ∀ (n : Nat) (ds : List (Str × D)), D.okRf n ds = true → PyData.leavesShortKv 1930 (D.pyRf ds) = true
  | _, [], _ => by simp [D.pyRf, PyData.leavesShortKv]
  | n, (f, x) :: xs, h => by
    have h' : (PyData.strOk f = true ∧ D.okR n x = true) ∧ D.okRf n xs = true := by simpa [D.okRf] using h
    have e := cps_short h'.1.1
    have e2 : (f.cps.toList.all fun c => decide (c < 16 ^ 8)) = true := List.all_eq_true.mpr fun c hc => decide_eq_true (e c hc)
    have e3 := okR_short n x h'.1.2
    have e4 := okRf_short n xs h'.2
    simp only [D.pyRf, PyData.leavesShortKv, PyData.leavesShort, e3, e4, e2, Bool.and_self]
end
structure FitR (d : D) : Prop where
  ok : D.okR 30 d = true
  wt : d.wtR ≤ 8000
theorem FitR.size {d : D} (h : FitR d) : d.pyR.shown.length ≤ sizeLine := by
  have h1 := PyData.shown_le_bulk 1930 (by decide) d.pyR (okR_short 30 d h.ok)
  have h2 := okR_bulk d
  have h3 := h.wt
  have h4 : (1930 + 2) * d.pyR.bulk ≤ 1932 * 8000 := Nat.mul_le_mul (by omega) (by omega)
  rw [sizeLine_eq]
  omega
mutual
/-- what no dict holds is the same data -/
theorem ok_okR : ∀ (n : Nat) (d : D), D.ok n d = true → D.okR n d = true ∧ d.pyR = d.py ∧ d.wtR = d.wt
  | n, .non, _ => ⟨by cases n <;> rfl, rfl, rfl⟩
  | n, .bl b, _ => ⟨by cases n <;> rfl, rfl, rfl⟩
  | n, .int i, h => ⟨by cases n <;> simpa [D.ok, D.okR] using h, rfl, rfl⟩
  | n, .str x, h => ⟨by cases n <;> simpa [D.ok, D.okR] using h, rfl, rfl⟩
  | 0, .lst xs, h => by simp [D.ok] at h
  | n + 1, .lst xs, h => by
    obtain ⟨a, b, c⟩ := oks_okR n xs (by simpa [D.ok] using h)
    exact ⟨by simpa [D.okR] using a, by simp [D.pyR, D.py, b], by simp [D.wtR, D.wt, c]⟩
  | 0, .tup xs, h => by simp [D.ok] at h
  | n + 1, .tup xs, h => by
    obtain ⟨a, b, c⟩ := oks_okR n xs (by simpa [D.ok] using h)
    exact ⟨by simpa [D.okR] using a, by simp [D.pyR, D.py, b], by simp [D.wtR, D.wt, c]⟩
  | n, .adr a, h => by cases n <;> simp [D.ok] at h
  | n, .ty a, h => by cases n <;> simp [D.ok] at h
  | n, .obj _ _, h => by cases n <;> simp [D.ok] at h
  | n, .dct _, h => by cases n <;> simp [D.ok] at h
  | n, .pin _ _, h => by cases n <;> simp [D.ok] at h
theorem oks_okR : ∀ (n : Nat) (ds : List D), D.oks n ds = true → D.okRs n ds = true ∧ D.pyRs ds = D.pys ds ∧ D.wtRs ds = D.wts ds
  | _, [], _ => ⟨by simp [D.okRs], by simp [D.pyRs, D.pys], by simp [D.wtRs, D.wts]⟩
  | n, x :: xs, h => by
    have h' : D.ok n x = true ∧ D.oks n xs = true := by simpa [D.oks] using h
    obtain ⟨a, b, c⟩ := ok_okR n x h'.1
    obtain ⟨a2, b2, c2⟩ := oks_okR n xs h'.2
    exact ⟨by simp [D.okRs, a, a2], by simp [D.pyRs, D.pys, b, b2], by simp [D.wtRs, D.wts, c, c2]⟩
end
theorem Fit.r {d : D} (h : Fit d) : FitR d := ⟨(ok_okR 30 d h.ok).1, by rw [(ok_okR 30 d h.ok).2.2]; exact h.wt⟩
end Wn
end

section
/-! Operators for operands of any kind, and what they make of trees. -/
namespace Wn
open PySem PySem.Spec PyProof.Rows L2

/-! ### data with dicts -/
/-- the text's fragment holds the table of modules: no tracked object stands there -/
def SysOk (K : PySem.W.Frag) : Prop := ∃ o, K.lookup sysModules = some o
mutual
inductive DpS (K : PySem.W.Frag) (H : Hp) : V → PyData → Prop
  | non : DpS K H .non .none
  | bl (b : Bool) : DpS K H (.bl b) (.bool b)
  | int (i : Int) : DpS K H (.int i) (.int i)
  | str (x : Str) : DpS K H (.str x) (.str x)
  | lst {a : Addr} {xs : List V} {ds : List PyData} : H a = some (.lst xs) → DpSs K H xs ds → DpS K H (.ref a) (.list ds)
  | tup {a : Addr} {xs : List V} {ds : List PyData} : SqT K H a xs → DpSs K H xs ds → DpS K H (.ref a) (.tuple ds)
  | dct {a : Addr} {fs : List (Str × V)} {ds : List (PyData × PyData)} : H a = some (.dK (fs.map fun p => (.inr p.1, p.2))) → DpSf K H fs ds → DpS K H (.ref a) (.dict ds)
inductive DpSs (K : PySem.W.Frag) (H : Hp) : List V → List PyData → Prop
  | nil : DpSs K H [] []
  | cons {v : V} {vs : List V} {d : PyData} {ds : List PyData} : DpS K H v d → DpSs K H vs ds → DpSs K H (v :: vs) (d :: ds)
inductive DpSf (K : PySem.W.Frag) (H : Hp) : List (Str × V) → List (PyData × PyData) → Prop
  | nil : DpSf K H [] []
  | cons {f : Str} {v : V} {vs : List (Str × V)} {d : PyData} {ds : List (PyData × PyData)} : DpS K H v d → DpSf K H vs ds → DpSf K H ((f, v) :: vs) ((.str f, d) :: ds)
end
section
variable {X : Cx} {pins : List (Addr × Obj)} {σ : L2.St} {H : Hp} {s : Shared}
theorem sys_ne (I : Inv X pins σ H s) (S : SysOk X.K) {a : Addr} {o : HO} (h : H a = some o) : sysModules ≠ a := fun e => by
  obtain ⟨o', h'⟩ := S
  have := (I.bs sysModules o' (I.mod.kin sysModules o' h')).2
  rw [e, h] at this
  cases this
/-- the keys of a dict of texts -/
theorem keys_reads {P : Program} {w : PySem.World} {h : Heap} : ∀ {es : List DictEntry} {fs : List (Str × V)} {ks : List (Key × Value)} {ds : List (PyData × PyData)} {K : PySem.W.Frag} {H : Hp}, PySem.Pairs (mixKind P w) es ks → KV (fs.map fun p => ((.inr p.1 : Key), p.2)) ks → DpSf K H fs ds → ReadsAll h (es.map (·.key)) (ds.map (·.1)) [] ∧ Vals (fs.map (·.2)) (es.map (·.val))
  | es, [], ks, ds, K, H, p, r, d => by
    cases d
    cases r
    cases p
    exact ⟨.nil, .nil⟩
  | es, (f, v) :: fs, ks, ds, K, H, p, r, d => by
    cases d with
    | cons d1 d2 =>
      cases r with
      | @cons _ kv _ kvs' r1 r2 =>
        cases p with
        | @cons e _ es' _ p1 p2 p3 =>
          obtain ⟨q1, q2⟩ := keys_reads (h := h) p3 r2 d2
          have hk : (mixKind P w).is (.inr f) e.key = true := by rw [show (Sum.inr f : Key) = kv.1 from r1.1]; exact p1
          obtain ⟨t, e2⟩ := Value.isStrOf_shape (x := f) (v := e.key) hk
          refine ⟨?_, .cons (by show L2.RelV v e.val; rw [p2]; exact r1.2) q2⟩
          show ReadsAll h (e.key :: _) (PyData.str f :: _) []
          rw [e2]
          exact ReadsAll.cons (Reads.str f t) q1
mutual
theorem DpS.reads (I : Inv X pins σ H s) (S : SysOk X.K) : ∀ (d : PyData) (v : V) (u : Value), DpS X.K H v d → RelV v u → ∃ as, Reads s.heap u d as ∧ sysModules ∉ as
  | .none, _, _, h, r => by
    cases h
    cases r
    exact ⟨_, Reads.none, by simp⟩
  | .bool b, _, _, h, r => by
    cases h
    cases r
    exact ⟨_, Reads.bool b, by simp⟩
  | .int i, _, _, h, r => by
    cases h
    obtain ⟨t, rfl⟩ := r
    exact ⟨_, Reads.int i t, by simp⟩
  | .str x, _, _, h, r => by
    cases h
    obtain ⟨t, rfl⟩ := r
    exact ⟨_, Reads.str x t, by simp⟩
  | .list ds, _, _, h, r => by
    cases h with
    | lst hs ha =>
      cases r
      have hne := sys_ne I S hs
      obtain ⟨its, rv, ⟨o, n, ho, hc, _, hd⟩, _⟩ := I.list (.inl (.inl hs))
      obtain ⟨as, hr, hn⟩ := DpS.readsAll I S ds _ its ha rv
      exact ⟨_, Reads.list ho hc hd hr, fun z => (List.mem_cons.mp z).elim hne hn⟩
  | .tuple ds, _, _, h, r => by
    cases h with
    | tup hs ha =>
      cases r
      obtain ⟨its, rv, ⟨o, ho, hc, n, hd⟩, _⟩ := I.tuple hs
      obtain ⟨as, hr, hn⟩ := DpS.readsAll I S ds _ its ha rv
      exact ⟨_, Reads.tuple ho hc hd hr, hn⟩
  | .dict ds, _, _, h, r => by
    cases h with
    | dct hs ha =>
      cases r
      have hne := sys_ne I S hs
      obtain ⟨_, _, vs, kv, o, es, ep, ho, hx, hd, _, hp, _⟩ := (show ObjOk X.prog X.w H s.heap _ (.dK _) from I.hok _ _ hs)
      obtain ⟨hk, hv⟩ := keys_reads (h := s.heap) hp kv ha
      obtain ⟨bs, hr, hn⟩ := DpS.readsF I S ds _ _ ha hv
      exact ⟨_, Reads.dict ho hx.1 hd hk hr, fun z => by
        rcases List.mem_append.mp z with z | z
        · exact (List.mem_cons.mp z).elim hne (fun z => by cases z)
        · exact hn z⟩
theorem DpS.readsAll (I : Inv X pins σ H s) (S : SysOk X.K) : ∀ (ds : List PyData) (vs : List V) (us : List Value), DpSs X.K H vs ds → Vals vs us → ∃ as, ReadsAll s.heap us ds as ∧ sysModules ∉ as
  | [], _, _, h, r => by
    cases h
    cases r
    exact ⟨_, ReadsAll.nil, by simp⟩
  | d :: ds, _, _, h, r => by
    cases h with
    | cons h1 h2 =>
      cases r with
      | cons r1 r2 =>
        obtain ⟨as, q1, n1⟩ := DpS.reads I S d _ _ h1 r1
        obtain ⟨bs, q2, n2⟩ := DpS.readsAll I S ds _ _ h2 r2
        exact ⟨_, ReadsAll.cons q1 q2, fun z => (List.mem_append.mp z).elim n1 n2⟩
theorem DpS.readsF (I : Inv X pins σ H s) (S : SysOk X.K) : ∀ (ds : List (PyData × PyData)) (vs : List (Str × V)) (us : List Value), DpSf X.K H vs ds → Vals (vs.map (·.2)) us → ∃ as, ReadsAll s.heap us (ds.map (·.2)) as ∧ sysModules ∉ as
  | [], _, _, h, r => by
    cases h
    cases r
    exact ⟨_, ReadsAll.nil, by simp⟩
  | (k, d) :: ds, _, _, h, r => by
    cases h with
    | cons h1 h2 =>
      cases r with
      | cons r1 r2 =>
        obtain ⟨as, q1, n1⟩ := DpS.reads I S d _ _ h1 r1
        obtain ⟨bs, q2, n2⟩ := DpS.readsF I S ds _ _ h2 r2
        exact ⟨_, ReadsAll.cons q1 q2, fun z => (List.mem_append.mp z).elim n1 n2⟩
end
end
def rReprR (K : PySem.W.Frag) : List V → Hp → VK → Prop := fun xs H Q => ∃ (a : Addr) (d : PyData), xs = [.ref a] ∧ SysOk K ∧ DpS K H (.ref a) d ∧ d.showable = true ∧ d.depth ≤ 40 ∧ d.shown.length ≤ sizeLine ∧ Q (.str d.shown) H
theorem cr_reprR {X : Cx} {k : Nat} (hr : Room k X.A) (hG : Quiet X.A) : CallR X (.builtin "repr") (rReprR X.K) := by
  intro pins s σ H xs us Q I r h
  obtain ⟨a, d, rfl, S, hd, hs, hp, hz, q⟩ := h
  obtain ⟨u, rfl, ru⟩ := vals1 r
  obtain ⟨as, rd, hn⟩ := DpS.reads I S d (.ref a) u hd ru
  cases (show u = Value.ref a from ru)
  have hu := hr.units
  refine repr_of_reads' rd hs (fun _ => hn) hG (by omega) (fun b o e => e) (fun h' u tk hk => ?_) hz
  exact ⟨.str d.shown, H, I.kept hk, ⟨u, rfl⟩, q⟩
/-! ### two lists of the very same things -/
def rNeI (K : PySem.W.Frag) : R2 := fun x y H Q => ∃ (a b : Addr) (vs : List V), x = .ref a ∧ y = .ref b ∧ SqL K H a vs ∧ SqL K H b vs ∧ (∀ v ∈ vs, ∃ c, v = .ref c) ∧ Q (.bl false) H
theorem vals_refs : ∀ {vs : List V} {us ws : List Value}, (∀ v ∈ vs, ∃ c, v = .ref c) → Vals vs us → Vals vs ws → us = ws
  | _, _, _, _, .nil, .nil => rfl
  | v :: _, _, _, h, .cons r1 t1, .cons r2 t2 => by
    obtain ⟨c, rfl⟩ := h v (List.mem_cons_self ..)
    cases (show _ = Value.ref c from r1)
    cases (show _ = Value.ref c from r2)
    rw [vals_refs (fun v hv => h v (List.mem_cons_of_mem _ hv)) t1 t2]
theorem op_neI {X : Cx} (hu : X.A.units + 64 < cLine) : OpR X (compareOp .NotEq) (rNeI X.K) := by
  intro pins s σ H x y v u Q I rx ry h
  obtain ⟨a, b, vs, rfl, rfl, h1, h2, hr, q⟩ := h
  cases (show v = Value.ref a from rx)
  cases (show u = Value.ref b from ry)
  obtain ⟨us, r1, p1, _⟩ := I.list h1
  obtain ⟨ws, r2, p2, _⟩ := I.list h2
  have e := vals_refs hr r1 r2
  subst e
  refine SeqAt.RcNeAt.lists (A := X.A) (e := fun _ => true) p1.isList p2.isList rfl (by omega) (fun j h1 h2 => SeqAt.EqAt.same _) X.prog X.w _ _ ?_
  rw [show ((List.range us.toArray.size).all fun _ => true) = true from List.all_eq_true.mpr fun _ _ => rfl]
  exact ⟨.bl false, H, I, rfl, q⟩
/-! ### readings -/
def rAddS : R2 := fun x y H Q => ∃ i j, x = .str i ∧ y = .str j ∧ i.length + j.length ≤ sizeLine ∧ Q (.str (i ++ j)) H
def rAddU (K : PySem.W.Frag) : R2 := fun x y H Q => rI0 (fun i j => .int (i + j)) x y H Q ∨ rAddS x y H Q ∨ rCat x y H Q ∨ rCatT K x y H Q
def rSubU : R2 := rI0 fun i j => .int (i - j)
def rRepS : R2 := fun x y H Q => ∃ z n, x = .str z ∧ y = .int n ∧ MulOk z n ∧ Q (.str (Txt.mul z n)) H
def rMulU : R2 := fun x y H Q => rI CMul (fun i j => .int (i * j)) x y H Q ∨ rI CMulW (fun i j => .int (i * j)) x y H Q ∨ rRep x y H Q ∨ rRepS x y H Q
def rModU : R2 := rI (fun _ j => 0 < j) fun i j => .int (i % j)
def rDivU : R2 := rI CDivW fun i j => .int (i / j)
def rPowU : R2 := rI CPow fun i j => .int (i ^ j.toNat)
def rEqU (K : PySem.W.Frag) : R2 := fun x y H Q => rEq x y H Q ∨ rEqD K x y H Q
def rNeU (K : PySem.W.Frag) : R2 := fun x y H Q => rNe x y H Q ∨ rNeD K x y H Q ∨ rNeI K x y H Q
def rLtS : R2 := fun x y H Q => ∃ i j, x = .str i ∧ y = .str j ∧ Q (.bl (decide (i.cps.toList < j.cps.toList))) H
def rGtS : R2 := fun x y H Q => ∃ i j, x = .str i ∧ y = .str j ∧ Q (.bl (decide (j.cps.toList < i.cps.toList))) H
def rLtU : R2 := fun x y H Q => rI0 (fun i j => .bl (decide (i < j))) x y H Q ∨ rLtS x y H Q
def rLeU : R2 := rI0 fun i j => .bl (decide (i ≤ j))
def rGtU : R2 := fun x y H Q => rI0 (fun i j => .bl (decide (j < i))) x y H Q ∨ rGtS x y H Q
def rGeU : R2 := rI0 fun i j => .bl (decide (j ≤ i))
def rInSg : R2 := fun x y H Q => ∃ (c : Nat) (z : Str), x = .str ⟨#[c]⟩ ∧ y = .str z ∧ Q (.bl (decide (c ∈ z.cps.toList))) H
def rNiSg : R2 := fun x y H Q => ∃ (c : Nat) (z : Str), x = .str ⟨#[c]⟩ ∧ y = .str z ∧ Q (.bl (!decide (c ∈ z.cps.toList))) H
def rInU (K : PySem.W.Frag) : R2 := fun x y H Q => rIn K false x y H Q ∨ rInSg x y H Q
def rNiU (K : PySem.W.Frag) : R2 := fun x y H Q => rIn K true x y H Q ∨ rNiSg x y H Q
def rIsNone : R2 := fun x y H Q => y = .non ∧ Q (.bl (decide (x = .non))) H
def rNotNone : R2 := fun x y H Q => y = .non ∧ Q (.bl (!decide (x = .non))) H
def rNegU : V → Hp → VK → Prop := rU fun i => .int (-i)
def rSlU (K : PySem.W.Frag) : V → Option Int → Option Int → Hp → VK → Prop := fun x lo hi H Q => rSlL K x lo hi H Q ∨ rSlT K x lo hi H Q ∨ rSlS x lo hi H Q
section
variable {X : Cx}
theorem op_addU : OpR X (binaryOp .Add) (rAddU X.K) := op_add.or (OpR.or op_add_str (op_cat.or op_catT))
theorem op_subU : OpR X (binaryOp .Sub) rSubU := op_sub
theorem op_repS : OpR X (binaryOp .Mult) rRepS := by
  intro pins s σ H x y v u Q I rx ry h
  obtain ⟨z, n, rfl, rfl, ok, q⟩ := h
  obtain ⟨t, rfl⟩ := rx
  obtain ⟨t2, rfl⟩ := ry
  exact SB.mul ok fun t' k => ⟨.str _, H, I.tok _, ⟨_, rfl⟩, q⟩
theorem op_mulU : OpR X (binaryOp .Mult) rMulU := op_mul.or (OpR.or op_mulW (op_rep.or op_repS))
theorem op_modU : OpR X (binaryOp .Mod) rModU := op_mod
theorem op_divU : OpR X (binaryOp .FloorDiv) rDivU := op_fdivW
theorem op_powU : OpR X (binaryOp .Pow) rPowU := op_pow
theorem op_eqU (hu : X.A.units + 64 < cLine) : OpR X (compareOp .Eq) (rEqU X.K) := op_eq.or (op_eqD hu)
theorem op_neU (hu : X.A.units + 64 < cLine) : OpR X (compareOp .NotEq) (rNeU X.K) := op_ne.or ((op_neD hu).or (op_neI hu))
theorem op_ltU : OpR X (compareOp .Lt) rLtU := op_lt.or op_lt_str
theorem op_leU : OpR X (compareOp .LtE) rLeU := op_le
theorem op_gtU : OpR X (compareOp .Gt) rGtU := op_gt.or op_gt_str
theorem op_geU : OpR X (compareOp .GtE) rGeU := op_ge
theorem op_inU : OpR X (compareOp .In) (rInU X.K) := op_in_seq.or op_in_sign
theorem op_niU : OpR X (compareOp .NotIn) (rNiU X.K) := op_notIn_seq.or op_notIn_sign
theorem op_isNU : OpR X (compareOp .Is) rIsNone := op_isN
theorem op_notNU : OpR X (compareOp .IsNot) rNotNone := op_notN
theorem un_negU : UnR X (unaryOp .USub) rNegU := un_neg
theorem sl_U : SlR X (rSlU X.K) := sl_list.or (sl_tup.or sl_str)
end
/-! calls -/
def rLenU (K : PySem.W.Frag) : List V → Hp → VK → Prop := fun xs H Q => ∃ x n, xs = [x] ∧ LenV K x H n ∧ Q (.int n) H
def rAbsU : List V → Hp → VK → Prop := fun xs H Q => ∃ i, xs = [.int i] ∧ Q (.int (if i < 0 then -i else i)) H
def rMax2U : List V → Hp → VK → Prop := fun xs H Q => ∃ i j, xs = [.int i, .int j] ∧ Q (.int (if j > i then j else i)) H
def rMin2U : List V → Hp → VK → Prop := fun xs H Q => ∃ i j, xs = [.int i, .int j] ∧ Q (.int (if j < i then j else i)) H
def rMaxU (K : PySem.W.Frag) : List V → Hp → VK → Prop := fun xs H Q => rMax2U xs H Q ∨ rMax K xs H Q
def rMinU (K : PySem.W.Frag) : List V → Hp → VK → Prop := fun xs H Q => rMin2U xs H Q ∨ rMin K xs H Q
def rIntU : List V → Hp → VK → Prop := fun xs H Q => ((∃ i, xs = [.int i] ∧ Q (.int i) H) ∨ ∃ k, xs = [.bl k] ∧ Q (.int (if k then 1 else 0)) H) ∨ ∃ a n, xs = [.str a] ∧ PySem.intText? a = some n ∧ a.length ≤ 640 ∧ Q (.int n) H
def rListU (K : PySem.W.Frag) : List V → Hp → VK → Prop := fun xs H Q => ∃ p ys, xs = [.ref p] ∧ (SqL K H p ys ∨ SqT K H p ys) ∧ ∀ l, H l = none → Q (.ref l) (upd H l (.lst ys))
def rTupU (K : PySem.W.Frag) : List V → Hp → VK → Prop := fun xs H Q => ∃ p ys, xs = [.ref p] ∧ ((SqL K H p ys ∧ ∀ l, H l = none → Q (.ref l) (upd H l (.tup ys))) ∨ (SqT K H p ys ∧ Q (.ref p) H))
def rReprS : List V → Hp → VK → Prop := fun xs H Q => ∃ x : Str, xs = [.str x] ∧ (reprText x).length ≤ sizeLine ∧ Q (.str (reprText x)) H
def rReprB : List V → Hp → VK → Prop := fun xs H Q => ∃ b : Bool, xs = [.bl b] ∧ Q (.str (if b then "True" else "False")) H
def rReprN : List V → Hp → VK → Prop := fun xs H Q => xs = [.non] ∧ Q (.str "None") H
def rReprI : List V → Hp → VK → Prop := fun xs H Q => ∃ i, xs = [.int i] ∧ i.natAbs.log2 < 1920 ∧ Q (.str (toString i)) H
def rReprU (K : PySem.W.Frag) : List V → Hp → VK → Prop := fun xs H Q => rRepr K xs H Q ∨ rReprI xs H Q ∨ rReprS xs H Q ∨ rReprB xs H Q ∨ rReprN xs H Q ∨ rReprR K xs H Q
section
variable {X : Cx}
theorem cb_len : CallR X (.builtin "len") (rLenU X.K) := call_len
theorem cb_abs : CallR X (.builtin "abs") rAbsU := call_abs
theorem cb_max (hc : X.calm = true) : CallR X (.builtin "max") (rMaxU X.K) := (call_max2 hc).or (cr_max hc)
theorem cb_min (hc : X.calm = true) : CallR X (.builtin "min") (rMinU X.K) := (call_min2 hc).or (cr_min hc)
theorem ct_int : CallR X (.type "int") rIntU := call_int1.or call_int_str
theorem ct_list : CallR X (.type "list") (rListU X.K) := call_list_of
theorem ct_tuple : CallR X (.type "tuple") (rTupU X.K) := call_tuple_of
theorem cb_all (hc : X.calm = true) : CallR X (.builtin "all") (rAll X.K) := cr_all hc
theorem cb_any (hc : X.calm = true) : CallR X (.builtin "any") (rAny X.K) := cr_any hc
theorem cb_sum (hc : X.calm = true) : CallR X (.builtin "sum") (rSum X.K) := cr_sum hc
theorem cb_isi : CallR X (.builtin "isinstance") (rIsi X.K) := call_isi
theorem cb_repr {k : Nat} (hr : Room k X.A) (hG : Quiet X.A) : CallR X (.builtin "repr") (rReprU X.K) :=
  (cr_repr hr hG).or (CallR.or SkE.call_repr_int (cr_repr_str.or (cr_repr_bool.or (cr_repr_none.or (cr_reprR hr hG)))))
end

/-! ### over trees -/
section
variable {K : PySem.W.Frag} {Φ : D → Prop} {M : Addr → Prop} {H : Hp}
theorem same_refl (H : Hp) : Same H H := fun _ _ h => h
theorem dt_lst {v : V} {xs : List D} (h : Dt K M H v (.lst xs)) : ∃ a vs, v = .ref a ∧ ¬ M a ∧ H a = some (.lst vs) ∧ DtL K M H vs xs := by
  cases h with
  | lst h1 h2 h3 => exact ⟨_, _, rfl, h1, h2, h3⟩
theorem dt_tup {v : V} {xs : List D} (h : Dt K M H v (.tup xs)) : ∃ a vs, v = .ref a ∧ SqT K H a vs ∧ DtL K M H vs xs := by
  cases h with
  | tup h1 h2 h3 => exact ⟨_, _, rfl, .inl h2, h3⟩
  | ktup h1 h3 => exact ⟨_, _, rfl, h1 H, h3⟩
theorem rd_addI {i j : Int} (q : Φ (.int (i + j))) : RD K (rAddU K) (.int i) (.int j) Φ := fun M x y H hM a b Q k => by
  cases a; cases b
  exact .inl ⟨i, j, rfl, rfl, k _ _ H q (same_refl H) (.int _)⟩
theorem rd_addS {i j : Str} (hl : i.length + j.length ≤ sizeLine) (q : Φ (.str (i ++ j))) : RD K (rAddU K) (.str i) (.str j) Φ := fun M x y H hM a b Q k => by
  cases a; cases b
  exact .inr (.inl ⟨i, j, rfl, rfl, hl, k _ _ H q (same_refl H) (.str _)⟩)
theorem nm_of (hM : ∀ a, M a → H a ≠ none) {p : Addr} (hp : H p = none) : ¬ M p := fun z => hM p z hp
theorem rd_addL {xs ys : List D} (hl : xs.length + ys.length ≤ 100000) (q : Φ (.lst (xs ++ ys))) : RD K (rAddU K) (.lst xs) (.lst ys) Φ := fun M x y H hM a b Q k => by
  obtain ⟨p, vs, rfl, n1, h1, d1⟩ := dt_lst a
  obtain ⟨r, us, rfl, n2, h2, d2⟩ := dt_lst b
  exact .inr (.inr (.inl ⟨p, r, vs, us, rfl, rfl, h1, h2, by rw [d1.length, d2.length]; exact Nat.le_trans hl (by decide), fun l hn =>
    k _ _ _ q (same_new hn) (.lst (nm_of hM hn) upd_same ((d1.append d2).ext (.of_same (same_new hn))))⟩))
theorem rd_addT {xs ys : List D} (hx : xs ≠ []) (hy : ys ≠ []) (hl : xs.length + ys.length ≤ 100000) (q : Φ (.tup (xs ++ ys))) : RD K (rAddU K) (.tup xs) (.tup ys) Φ := fun M x y H hM a b Q k => by
  obtain ⟨p, vs, rfl, h1, d1⟩ := dt_tup a
  obtain ⟨r, us, rfl, h2, d2⟩ := dt_tup b
  refine .inr (.inr (.inr ⟨p, r, vs, us, rfl, rfl, h1, h2, fun z => hx ?_, by rw [d1.length, d2.length]; exact Nat.le_trans hl (by decide), fun z => ?_, fun z l hn => ?_⟩))
  · subst z
    cases d1
    rfl
  · subst z
    cases d2
    exact absurd rfl hy
  · exact k _ _ _ q (same_new hn) (.tup (nm_of hM hn) (.inl upd_same) ((d1.append d2).ext (.of_same (same_new hn))))
theorem rd_sub {i j : Int} (q : Φ (.int (i - j))) : RD K rSubU (.int i) (.int j) Φ := fun M x y H hM a b Q k => by
  cases a; cases b
  exact ⟨i, j, rfl, rfl, k _ _ H q (same_refl H) (.int _)⟩
theorem rd_mul {i j : Int} (h : CMul i j) (q : Φ (.int (i * j))) : RD K rMulU (.int i) (.int j) Φ := fun M x y H hM a b Q k => by
  cases a; cases b
  exact .inl ⟨i, j, rfl, rfl, h, k _ _ H q (same_refl H) (.int _)⟩
theorem rd_mulW {i j : Int} (h : CMulW i j) (q : Φ (.int (i * j))) : RD K rMulU (.int i) (.int j) Φ := fun M x y H hM a b Q k => by
  cases a; cases b
  exact .inr (.inl ⟨i, j, rfl, rfl, h, k _ _ H q (same_refl H) (.int _)⟩)
theorem rd_repS {z : Str} {n : Int} (h : MulOk z n) (q : Φ (.str (Txt.mul z n))) : RD K rMulU (.str z) (.int n) Φ := fun M x y H hM a b Q k => by
  cases a; cases b
  exact .inr (.inr (.inr ⟨z, n, rfl, rfl, h, k _ _ H q (same_refl H) (.str _)⟩))
theorem rd_rep {xs : List D} {n : Int} (h : -(2 ^ 62) ≤ n ∧ n < 2 ^ 62 ∧ xs.length * n.toNat ≤ 100000) (q : Φ (.lst (List.replicate n.toNat xs).flatten)) : RD K rMulU (.lst xs) (.int n) Φ := fun M x y H hM a b Q k => by
  cases b
  obtain ⟨p, vs, rfl, n1, h1, d1⟩ := dt_lst a
  refine .inr (.inr (.inl ⟨p, n, vs, rfl, rfl, h1, by omega, by omega, by rw [d1.length]; exact Nat.le_trans h.2.2 (by decide), fun l hn => ?_⟩))
  refine k _ _ _ q (same_new hn) (.lst (nm_of hM hn) upd_same (DtL.ext ?_ (.of_same (same_new hn))))
  generalize n.toNat = m
  induction m with
  | zero => exact .nil
  | succ m ih => exact d1.append ih
theorem rd_mod {i j : Int} (h : 0 < j) (q : Φ (.int (i % j))) : RD K rModU (.int i) (.int j) Φ := fun M x y H hM a b Q k => by
  cases a; cases b
  exact ⟨i, j, rfl, rfl, h, k _ _ H q (same_refl H) (.int _)⟩
theorem rd_div {i j : Int} (h : CDivW i j) (q : Φ (.int (i / j))) : RD K rDivU (.int i) (.int j) Φ := fun M x y H hM a b Q k => by
  cases a; cases b
  exact ⟨i, j, rfl, rfl, h, k _ _ H q (same_refl H) (.int _)⟩
theorem rd_pow {i j : Int} (h : CPow i j) (q : Φ (.int (i ^ j.toNat))) : RD K rPowU (.int i) (.int j) Φ := fun M x y H hM a b Q k => by
  cases a; cases b
  exact ⟨i, j, rfl, rfl, h, k _ _ H q (same_refl H) (.int _)⟩
theorem rd_eqI {i j : Int} (q : Φ (.bl (decide (i = j)))) : RD K (rEqU K) (.int i) (.int j) Φ := fun M x y H hM a b Q k => by
  cases a; cases b
  refine .inl ⟨rfl, ?_⟩
  rw [show decide (V.int i = V.int j) = decide (i = j) by simp]
  exact k _ _ H q (same_refl H) (.bl _)
theorem rd_eqS {i j : Str} (q : Φ (.bl (decide (i = j)))) : RD K (rEqU K) (.str i) (.str j) Φ := fun M x y H hM a b Q k => by
  cases a; cases b
  refine .inl ⟨rfl, ?_⟩
  rw [show decide (V.str i = V.str j) = decide (i = j) by simp]
  exact k _ _ H q (same_refl H) (.bl _)
theorem rd_eqB {i j : Bool} (q : Φ (.bl (decide (i = j)))) : RD K (rEqU K) (.bl i) (.bl j) Φ := fun M x y H hM a b Q k => by
  cases a; cases b
  refine .inl ⟨rfl, ?_⟩
  rw [show decide (V.bl i = V.bl j) = decide (i = j) by simp]
  exact k _ _ H q (same_refl H) (.bl _)
theorem rd_eqD {a b : D} (ha : Fit a) (hb : Fit b) (q : Φ (.bl (PyData.eqv a.py b.py))) : RD K (rEqU K) a b Φ := fun M x y H hM da db Q k =>
  .inr ⟨a.py, b.py, da.dp ha.ok, db.dp hb.ok, ha.shaped, hb.shaped, k _ _ H q (same_refl H) (.bl _)⟩
/-- one and the same data -/
theorem rd_same {a : D} (ha : Fit a) (q : Φ (.bl true)) : RD K (rEqU K) a a Φ := rd_eqD ha ha (by rw [PySem.SeqAt.eqv_refl a.py (ok_can 30 a ha.ok)]; exact q)
theorem rd_neI {i j : Int} (q : Φ (.bl (!decide (i = j)))) : RD K (rNeU K) (.int i) (.int j) Φ := fun M x y H hM a b Q k => by
  cases a; cases b
  refine .inl ⟨rfl, ?_⟩
  rw [show decide (V.int i = V.int j) = decide (i = j) by simp]
  exact k _ _ H q (same_refl H) (.bl _)
theorem rd_neS {i j : Str} (q : Φ (.bl (!decide (i = j)))) : RD K (rNeU K) (.str i) (.str j) Φ := fun M x y H hM a b Q k => by
  cases a; cases b
  refine .inl ⟨rfl, ?_⟩
  rw [show decide (V.str i = V.str j) = decide (i = j) by simp]
  exact k _ _ H q (same_refl H) (.bl _)
theorem rd_neD {a b : D} (ha : Fit a) (hb : Fit b) (q : Φ (.bl (!PyData.eqv a.py b.py))) : RD K (rNeU K) a b Φ := fun M x y H hM da db Q k =>
  .inr (.inl ⟨a.py, b.py, da.dp ha.ok, db.dp hb.ok, ha.shaped, hb.shaped, k _ _ H q (same_refl H) (.bl _)⟩)
theorem rd_nsame {a : D} (ha : Fit a) (q : Φ (.bl false)) : RD K (rNeU K) a a Φ := rd_neD ha ha (by rw [PySem.SeqAt.eqv_refl a.py (ok_can 30 a ha.ok)]; exact q)
theorem rd_lt {i j : Int} (q : Φ (.bl (decide (i < j)))) : RD K rLtU (.int i) (.int j) Φ := fun M x y H hM a b Q k => by
  cases a; cases b
  exact .inl ⟨i, j, rfl, rfl, k _ _ H q (same_refl H) (.bl _)⟩
theorem rd_le {i j : Int} (q : Φ (.bl (decide (i ≤ j)))) : RD K rLeU (.int i) (.int j) Φ := fun M x y H hM a b Q k => by
  cases a; cases b
  exact ⟨i, j, rfl, rfl, k _ _ H q (same_refl H) (.bl _)⟩
theorem rd_gt {i j : Int} (q : Φ (.bl (decide (j < i)))) : RD K rGtU (.int i) (.int j) Φ := fun M x y H hM a b Q k => by
  cases a; cases b
  exact .inl ⟨i, j, rfl, rfl, k _ _ H q (same_refl H) (.bl _)⟩
theorem rd_ge {i j : Int} (q : Φ (.bl (decide (j ≤ i)))) : RD K rGeU (.int i) (.int j) Φ := fun M x y H hM a b Q k => by
  cases a; cases b
  exact ⟨i, j, rfl, rfl, k _ _ H q (same_refl H) (.bl _)⟩
def D.isNon : D → Bool
  | .non => true
  | _ => false
theorem dt_isNon {v : V} {d : D} (h : Dt K M H v d) : decide (v = .non) = d.isNon := by cases h <;> rfl
theorem rd_isN {a : D} (q : Φ (.bl a.isNon)) : RD K rIsNone a .non Φ := fun M x y H hM da db Q k => by
  cases db
  refine ⟨rfl, ?_⟩
  rw [dt_isNon da]
  exact k _ _ H q (same_refl H) (.bl _)
theorem rd_notN {a : D} (q : Φ (.bl (!a.isNon))) : RD K rNotNone a .non Φ := fun M x y H hM da db Q k => by
  cases db
  refine ⟨rfl, ?_⟩
  rw [dt_isNon da]
  exact k _ _ H q (same_refl H) (.bl _)
theorem ru_neg {i : Int} (q : Φ (.int (-i))) : RU K rNegU (.int i) Φ := fun M x H hM a Q k => by
  cases a
  exact ⟨i, rfl, k _ _ H q (same_refl H) (.int _)⟩
/-! subscripts -/
theorem dtl_atI {vs : List V} {ds : List D} {i : Int} {d : D} (h : DtL K M H vs ds) (e : atI ds i = some d) : ∃ v, atI vs i = some v ∧ Dt K M H v d := by
  unfold atI at e ⊢
  rw [h.length]
  cases q : ixN ds.length i with
  | none => rw [q] at e; cases e
  | some j =>
    rw [q] at e
    exact h.get e
theorem rd_ixL {xs : List D} {i : Int} {d : D} (h : atI xs i = some d) (q : Φ d) : RD K (rIx K) (.lst xs) (.int i) Φ := fun M x y H hM a b Q k => by
  cases b
  obtain ⟨p, vs, rfl, n1, h1, d1⟩ := dt_lst a
  obtain ⟨v, e, dv⟩ := dtl_atI d1 h
  exact .inl ⟨p, vs, i, v, rfl, rfl, SqL.of h1, e, k _ _ H q (same_refl H) dv⟩
theorem rd_ixT {xs : List D} {i : Int} {d : D} (h : atI xs i = some d) (q : Φ d) : RD K (rIx K) (.tup xs) (.int i) Φ := fun M x y H hM a b Q k => by
  cases b
  obtain ⟨p, vs, rfl, h1, d1⟩ := dt_tup a
  obtain ⟨v, e, dv⟩ := dtl_atI d1 h
  exact .inr (.inl ⟨p, vs, i, v, rfl, rfl, h1, e, k _ _ H q (same_refl H) dv⟩)
theorem rd_ixS {z : Str} {i : Int} {c : Nat} (hl : z.length ≤ sizeLine) (h : atI z.cps.toList i = some c) (q : Φ (.str ⟨#[c]⟩)) : RD K (rIx K) (.str z) (.int i) Φ := fun M x y H hM a b Q k => by
  cases a; cases b
  exact .inr (.inr ⟨z, i, c, rfl, rfl, hl, h, k _ _ H q (same_refl H) (.str _)⟩)
/-! in -/
def D.flat : D → Bool
  | .non => true | .bl _ => true | .int _ => true | .str _ => true
  | _ => false
def D.v : D → V
  | .bl b => .bl b
  | .int i => .int i
  | .str x => .str x
  | _ => .non
theorem dt_flat {v : V} {d : D} (h : Dt K M H v d) (f : d.flat = true) : v = d.v ∧ flatV v = true := by
  cases h with
  | non => exact ⟨rfl, rfl⟩
  | bl b => exact ⟨rfl, rfl⟩
  | int i => exact ⟨rfl, rfl⟩
  | str x => exact ⟨rfl, rfl⟩
  | _ => cases f
theorem dtl_flat : ∀ {vs : List V} {ds : List D}, DtL K M H vs ds → ds.all D.flat = true → vs = ds.map D.v ∧ vs.all flatV = true
  | _, _, .nil, _ => ⟨rfl, rfl⟩
  | _, d :: ds, .cons h t, f => by
    rw [List.all_cons, Bool.and_eq_true] at f
    obtain ⟨h1, h2⟩ := dt_flat h f.1
    obtain ⟨t1, t2⟩ := dtl_flat t f.2
    exact ⟨by rw [h1, t1]; rfl, by rw [List.all_cons, h2, t2]; rfl⟩
theorem rd_inL {a : D} {xs : List D} (fa : a.flat = true) (fx : xs.all D.flat = true) (q : Φ (.bl (inV a.v (xs.map D.v)))) : RD K (rInU K) a (.lst xs) Φ := fun M x y H hM da db Q k => by
  obtain ⟨p, vs, rfl, n1, h1, d1⟩ := dt_lst db
  obtain ⟨e1, f1⟩ := dt_flat da fa
  obtain ⟨e2, f2⟩ := dtl_flat d1 fx
  refine .inl ⟨p, vs, rfl, .inl (SqL.of h1), f1, f2, ?_⟩
  rw [e1, e2]
  exact k _ _ H q (same_refl H) (.bl _)
theorem rd_inT {a : D} {xs : List D} (fa : a.flat = true) (fx : xs.all D.flat = true) (q : Φ (.bl (inV a.v (xs.map D.v)))) : RD K (rInU K) a (.tup xs) Φ := fun M x y H hM da db Q k => by
  obtain ⟨p, vs, rfl, h1, d1⟩ := dt_tup db
  obtain ⟨e1, f1⟩ := dt_flat da fa
  obtain ⟨e2, f2⟩ := dtl_flat d1 fx
  refine .inl ⟨p, vs, rfl, .inr h1, f1, f2, ?_⟩
  rw [e1, e2]
  exact k _ _ H q (same_refl H) (.bl _)
theorem rd_inS {c : Nat} {z : Str} (q : Φ (.bl (decide (c ∈ z.cps.toList)))) : RD K (rInU K) (.str ⟨#[c]⟩) (.str z) Φ := fun M x y H hM da db Q k => by
  cases da; cases db
  exact .inr ⟨c, z, rfl, rfl, k _ _ H q (same_refl H) (.bl _)⟩
theorem rd_niL {a : D} {xs : List D} (fa : a.flat = true) (fx : xs.all D.flat = true) (q : Φ (.bl (!inV a.v (xs.map D.v)))) : RD K (rNiU K) a (.lst xs) Φ := fun M x y H hM da db Q k => by
  obtain ⟨p, vs, rfl, n1, h1, d1⟩ := dt_lst db
  obtain ⟨e1, f1⟩ := dt_flat da fa
  obtain ⟨e2, f2⟩ := dtl_flat d1 fx
  refine .inl ⟨p, vs, rfl, .inl (SqL.of h1), f1, f2, ?_⟩
  rw [e1, e2]
  exact k _ _ H q (same_refl H) (.bl _)
theorem rd_niT {a : D} {xs : List D} (fa : a.flat = true) (fx : xs.all D.flat = true) (q : Φ (.bl (!inV a.v (xs.map D.v)))) : RD K (rNiU K) a (.tup xs) Φ := fun M x y H hM da db Q k => by
  obtain ⟨p, vs, rfl, h1, d1⟩ := dt_tup db
  obtain ⟨e1, f1⟩ := dt_flat da fa
  obtain ⟨e2, f2⟩ := dtl_flat d1 fx
  refine .inl ⟨p, vs, rfl, .inr h1, f1, f2, ?_⟩
  rw [e1, e2]
  exact k _ _ H q (same_refl H) (.bl _)
/-! built-ins -/
theorem dt1 {vs : List V} {d : D} (h : DtL K M H vs [d]) : ∃ v, vs = [v] ∧ Dt K M H v d := by
  cases h with
  | cons a b => cases b; exact ⟨_, rfl, a⟩
theorem dt2 {vs : List V} {d e : D} (h : DtL K M H vs [d, e]) : ∃ v u, vs = [v, u] ∧ Dt K M H v d ∧ Dt K M H u e := by
  cases h with
  | cons a b => cases b with
    | cons c d => cases d; exact ⟨_, _, rfl, a, c⟩
theorem rc_lenL {xs : List D} (q : Φ (.int xs.length)) : RC K (rLenU K) [.lst xs] Φ := fun M vs H hM d Q k => by
  obtain ⟨v, rfl, dv⟩ := dt1 d
  obtain ⟨p, us, rfl, n1, h1, d1⟩ := dt_lst dv
  refine ⟨.ref p, us.length, rfl, .inl ⟨us, SqL.of h1, rfl⟩, ?_⟩
  rw [d1.length]
  exact k _ _ H q (same_refl H) (.int _)
theorem rc_lenT {xs : List D} (q : Φ (.int xs.length)) : RC K (rLenU K) [.tup xs] Φ := fun M vs H hM d Q k => by
  obtain ⟨v, rfl, dv⟩ := dt1 d
  obtain ⟨p, us, rfl, h1, d1⟩ := dt_tup dv
  refine ⟨.ref p, us.length, rfl, .inr ⟨us, h1, rfl⟩, ?_⟩
  rw [d1.length]
  exact k _ _ H q (same_refl H) (.int _)
theorem rc_lenS {x : Str} (hl : x.length ≤ sizeLine) (q : Φ (.int x.length)) : RC K (rLenU K) [.str x] Φ := fun M vs H hM d Q k => by
  obtain ⟨v, rfl, dv⟩ := dt1 d
  cases dv
  exact ⟨_, x.length, rfl, ⟨hl, rfl⟩, k _ _ H q (same_refl H) (.int _)⟩
theorem rc_abs {i : Int} (q : Φ (.int (if i < 0 then -i else i))) : RC K rAbsU [.int i] Φ := fun M vs H hM d Q k => by
  obtain ⟨v, rfl, dv⟩ := dt1 d
  cases dv
  exact ⟨i, rfl, k _ _ H q (same_refl H) (.int _)⟩
theorem max_if (i j : Int) : (if j > i then j else i) = max i j := by
  by_cases h : j > i
  · rw [if_pos h]; omega
  · rw [if_neg h]; omega
theorem min_if (i j : Int) : (if j < i then j else i) = min i j := by
  by_cases h : j < i
  · rw [if_pos h]; omega
  · rw [if_neg h]; omega
theorem rc_max {i j : Int} (q : Φ (.int (max i j))) : RC K (rMaxU K) [.int i, .int j] Φ := fun M vs H hM d Q k => by
  obtain ⟨v, u, rfl, dv, du⟩ := dt2 d
  cases dv; cases du
  refine .inl ⟨i, j, rfl, ?_⟩
  rw [max_if]
  exact k _ _ H q (same_refl H) (.int _)
theorem rc_min {i j : Int} (q : Φ (.int (min i j))) : RC K (rMinU K) [.int i, .int j] Φ := fun M vs H hM d Q k => by
  obtain ⟨v, u, rfl, dv, du⟩ := dt2 d
  cases dv; cases du
  refine .inl ⟨i, j, rfl, ?_⟩
  rw [min_if]
  exact k _ _ H q (same_refl H) (.int _)
theorem rc_intI {i : Int} (q : Φ (.int i)) : RC K rIntU [.int i] Φ := fun M vs H hM d Q k => by
  obtain ⟨v, rfl, dv⟩ := dt1 d
  cases dv
  exact .inl (.inl ⟨i, rfl, k _ _ H q (same_refl H) (.int _)⟩)
theorem rc_intB {b : Bool} (q : Φ (.int (if b then 1 else 0))) : RC K rIntU [.bl b] Φ := fun M vs H hM d Q k => by
  obtain ⟨v, rfl, dv⟩ := dt1 d
  cases dv
  exact .inl (.inr ⟨b, rfl, k _ _ H q (same_refl H) (.int _)⟩)
theorem dtl_bls : ∀ {vs : List V} {bs : List Bool}, DtL K M H vs (bs.map D.bl) → vs = bs.map V.bl
  | _, [], .nil => rfl
  | _, b :: bs, .cons h t => by
    cases h
    rw [dtl_bls t]
    rfl
theorem dtl_ints : ∀ {vs : List V} {bs : List Int}, DtL K M H vs (bs.map D.int) → vs = bs.map V.int
  | _, [], .nil => rfl
  | _, b :: bs, .cons h t => by
    cases h
    rw [dtl_ints t]
    rfl
theorem rc_all {bs : List Bool} {ds : List D} (hd : ds = bs.map D.bl) (q : Φ (.bl (bs.all id))) : RC K (rAll K) [.lst ds] Φ := fun M vs H hM d Q k => by
  subst hd
  obtain ⟨v, rfl, dv⟩ := dt1 d
  obtain ⟨p, us, rfl, n1, h1, d1⟩ := dt_lst dv
  have e := dtl_bls d1
  subst e
  exact ⟨p, bs, rfl, SqL.of h1, k _ _ H q (same_refl H) (.bl _)⟩
theorem rc_sum {ns : List Int} {ds : List D} (hd : ds = ns.map D.int) (q : Φ (.int ns.sum)) : RC K (rSum K) [.lst ds] Φ := fun M vs H hM d Q k => by
  subst hd
  obtain ⟨v, rfl, dv⟩ := dt1 d
  obtain ⟨p, us, rfl, n1, h1, d1⟩ := dt_lst dv
  have e := dtl_ints d1
  subst e
  exact ⟨p, ns, rfl, SqL.of h1, k _ _ H q (same_refl H) (.int _)⟩
/-- the text of data -/
def D.rp : D → Str
  | d => d.py.shown
theorem rc_repr {d : D} (h : Fit d) (q : Φ (.str d.py.shown)) : RC K (rReprU K) [d] Φ := fun M vs H hM dd Q k => by
  obtain ⟨v, rfl, dv⟩ := dt1 dd
  have k' := k _ _ H q (same_refl H) (.str _)
  have dp := dv.dp h.ok
  have hs := h.size
  cases dv with
  | non => exact .inr (.inr (.inr (.inr (.inl ⟨rfl, k'⟩))))
  | bl b => exact .inr (.inr (.inr (.inl ⟨b, rfl, k'⟩)))
  | int i => exact .inr (.inl ⟨i, rfl, by have := h.ok; simpa [D.ok] using this, k'⟩)
  | str x => exact .inr (.inr (.inl ⟨x, rfl, hs, k'⟩))
  | adr a => have := h.ok; simp [D.ok] at this
  | ty a => have := h.ok; simp [D.ok] at this
  | obj h1 h2 h3 => have := h.ok; simp [D.ok] at this
  | dct h1 h2 h3 => have := h.ok; simp [D.ok] at this
  | pin h1 => have := h.ok; simp [D.ok] at this
  | lst h1 h2 h3 => exact .inl ⟨_, _, rfl, dp, ok_show 30 _ h.ok, h.noDict, Nat.le_trans (ok_depth 30 _ h.ok) (by decide), hs, k'⟩
  | tup h1 h2 h3 => exact .inl ⟨_, _, rfl, dp, ok_show 30 _ h.ok, h.noDict, Nat.le_trans (ok_depth 30 _ h.ok) (by decide), hs, k'⟩
  | ktup h1 h3 => exact .inl ⟨_, _, rfl, dp, ok_show 30 _ h.ok, h.noDict, Nat.le_trans (ok_depth 30 _ h.ok) (by decide), hs, k'⟩
mutual
theorem Dt.dpS {M : Addr → Prop} {H : Hp} : ∀ {n : Nat} {v : V} {d : D}, D.okR n d = true → Dt K M H v d → DpS K H v d.pyR
  | _, _, _, _, .non => .non
  | _, _, _, _, .bl b => .bl b
  | _, _, _, _, .int i => .int i
  | _, _, _, _, .str x => .str x
  | 0, _, _, h, .lst _ _ _ => by simp [D.okR] at h
  | n + 1, _, _, h, .lst _ h1 h2 => .lst h1 (DtL.dpS (n := n) (by simpa [D.okR] using h) h2)
  | 0, _, _, h, .tup _ _ _ => by simp [D.okR] at h
  | n + 1, _, _, h, .tup _ h1 h2 => .tup (.inl h1) (DtL.dpS (n := n) (by simpa [D.okR] using h) h2)
  | 0, _, _, h, .ktup _ _ => by simp [D.okR] at h
  | n + 1, _, _, h, .ktup h1 h2 => .tup (h1 H) (DtL.dpS (n := n) (by simpa [D.okR] using h) h2)
  | 0, _, _, h, .dct _ _ _ => by simp [D.okR] at h
  | n + 1, _, _, h, .dct _ h1 h2 => .dct h1 (DtF.dpS (n := n) (by simpa [D.okR] using h) h2)
  | n, _, .adr a, h, _ => by cases n <;> simp [D.okR] at h
  | n, _, .ty a, h, _ => by cases n <;> simp [D.okR] at h
  | n, _, .obj _ _, h, _ => by cases n <;> simp [D.okR] at h
  | n, _, .pin _ _, h, _ => by cases n <;> simp [D.okR] at h
theorem DtL.dpS {M : Addr → Prop} {H : Hp} : ∀ {n : Nat} {vs : List V} {ds : List D}, D.okRs n ds = true → DtL K M H vs ds → DpSs K H vs (D.pyRs ds)
  | _, _, _, _, .nil => .nil
  | n, _, d :: ds, h, .cons h1 h2 => by
    have h' : D.okR n d = true ∧ D.okRs n ds = true := by simpa [D.okRs] using h
    exact .cons (Dt.dpS h'.1 h1) (DtL.dpS h'.2 h2)
theorem DtF.dpS {M : Addr → Prop} {H : Hp} : ∀ {n : Nat} {vs : List (Str × V)} {ds : List (Str × D)}, D.okRf n ds = true → DtF K M H vs ds → DpSf K H vs (D.pyRf ds)
  | _, _, _, _, .nil => .nil
  | n, _, (f, d) :: ds, h, .cons h1 h2 => by
    have h' : (PyData.strOk f = true ∧ D.okR n d = true) ∧ D.okRf n ds = true := by simpa [D.okRf] using h
    exact .cons (Dt.dpS h'.1.2 h1) (DtF.dpS h'.2 h2)
end
/-- repr of data that may hold dicts -/
theorem rc_reprR {d : D} (S : SysOk K) (h : FitR d) (q : Φ (.str d.pyR.shown)) : RC K (rReprU K) [d] Φ := fun M vs H hM dd Q k => by
  obtain ⟨v, rfl, dv⟩ := dt1 dd
  have k' := k _ _ H q (same_refl H) (.str _)
  have dp := dv.dpS h.ok
  have hs := h.size
  have hd := Nat.le_trans (okR_depth 30 _ h.ok) (by decide : 30 ≤ 40)
  have hw := okR_show 30 _ h.ok
  cases dv with
  | non => exact .inr (.inr (.inr (.inr (.inl ⟨rfl, k'⟩))))
  | bl b => exact .inr (.inr (.inr (.inl ⟨b, rfl, k'⟩)))
  | int i => exact .inr (.inl ⟨i, rfl, by have := h.ok; simpa [D.okR] using this, k'⟩)
  | str x => exact .inr (.inr (.inl ⟨x, rfl, hs, k'⟩))
  | adr a => have := h.ok; simp [D.okR] at this
  | ty a => have := h.ok; simp [D.okR] at this
  | obj h1 h2 h3 => have := h.ok; simp [D.okR] at this
  | pin h1 => have := h.ok; simp [D.okR] at this
  | lst h1 h2 h3 => exact .inr (.inr (.inr (.inr (.inr ⟨_, _, rfl, S, dp, hw, hd, hs, k'⟩))))
  | tup h1 h2 h3 => exact .inr (.inr (.inr (.inr (.inr ⟨_, _, rfl, S, dp, hw, hd, hs, k'⟩))))
  | ktup h1 h3 => exact .inr (.inr (.inr (.inr (.inr ⟨_, _, rfl, S, dp, hw, hd, hs, k'⟩))))
  | dct h1 h2 h3 => exact .inr (.inr (.inr (.inr (.inr ⟨_, _, rfl, S, dp, hw, hd, hs, k'⟩))))
/-- the very same things, by their addresses -/
def pinsD (xs : List (Addr × D)) : List D := xs.map fun p => .pin p.1 p.2
theorem dtl_pins {M : Addr → Prop} {H : Hp} : ∀ {xs : List (Addr × D)} {vs : List V}, DtL K M H vs (pinsD xs) → vs = xs.map fun p => V.ref p.1
  | [], vs, h => by cases h; rfl
  | (a, d) :: xs, vs, h => by
    cases h with
    | cons h1 h2 =>
      cases h1
      rw [dtl_pins h2]
      rfl
theorem rd_nePins {xs : List (Addr × D)} (q : Φ (.bl false)) : RD K (rNeU K) (.lst (pinsD xs)) (.lst (pinsD xs)) Φ := fun M x y H hM da db Q k => by
  obtain ⟨a, us, rfl, _, h1, l1⟩ := dt_lst da
  obtain ⟨b, ws, rfl, _, h2, l2⟩ := dt_lst db
  rw [dtl_pins l1] at h1
  rw [dtl_pins l2] at h2
  exact .inr (.inr ⟨a, b, _, rfl, rfl, .of h1, .of h2, fun v hv => by obtain ⟨p, _, rfl⟩ := List.mem_map.mp hv; exact ⟨_, rfl⟩, k _ _ H q (same_refl H) (.bl _)⟩)
/-- isinstance against a built-in class -/
def D.tyn : D → String
  | .non => "NoneType" | .bl _ => "bool" | .int _ => "int" | .str _ => "str" | .lst _ => "list" | .tup _ => "tuple" | .dct _ => "dict" | _ => ""
theorem rc_isi {d : D} {n : String} {b : Bool} (hd : d.tyn ≠ "") (hk : kitB d.tyn n = some b) (q : Φ (.bl b)) : RC K (rIsi K) [d, .ty n] Φ := fun M vs H hM dd Q k => by
  obtain ⟨v, u, rfl, dv, du⟩ := dt2 dd
  cases du
  refine ⟨v, .ty n, .type d.tyn, .type n, b, rfl, .ty n, ?_, kit_ty hk, k _ _ H q (same_refl H) (.bl _)⟩
  cases dv with
  | non => exact .base .non
  | bl b => exact .base (.bl b)
  | int i => exact .base (.int i)
  | str x => exact .base (.str x)
  | lst h1 h2 h3 => exact .base (.lst h2)
  | tup h1 h2 h3 =>
    rcases h2 with h2 | ⟨o, h2⟩
    · exact .base (.tup h2)
    · exact .fTuple h2
  | ktup h1 h3 =>
    rcases h1 H with (h | ⟨o, h⟩) | ⟨o, its, m, l1, l2, _⟩
    · exact .base (.tup h)
    · exact .fTuple h
    · exact .kTuple l1 l2
  | adr a => exact absurd rfl hd
  | ty a => exact absurd rfl hd
  | obj h1 h2 h3 => exact absurd rfl hd
  | dct h1 h2 h3 => exact .base (.dK h2)
  | pin h1 => exact absurd rfl hd
/-- .. of an instance of the class at c -/
structure Isi (K : PySem.W.Frag) (c : Addr) : Prop where
  cl : Cls K c
  ha : PySem.W.findIn K (.ref c) "__class__" = some (some (.builtin "object.__class__"))
  hn : PySem.W.specialIn K (.builtin "object.__class__") "__get__" = some (some (.builtin "getset_descriptor.__get__"))
  htk : PySem.W.takesIn K (.builtin "object.__class__") = some true
  hm : PySem.W.mroIn K c (.type "object") = some true
theorem rc_isiO {c : Addr} {fs : List (Str × D)} (T : Isi K c) (q : Φ (.bl true)) : RC K (rIsi K) [.obj c fs, .adr c] Φ := fun M vs H hM dd Q k => by
  obtain ⟨v, u, rfl, dv, du⟩ := dt2 dd
  cases du
  cases dv with
  | obj h1 h2 h3 => exact ⟨_, .ref c, .ref c, .ref c, true, rfl, .own c, .base (.ins h2 T.cl T.ha T.hn T.htk T.hm), by unfold PySem.W.kitOne; rw [if_pos (beq_self_eq_true _)], k _ _ H q (same_refl H) (.bl _)⟩
end
/-! new lists -/
section
variable {C : Ctx} {δ : List Sl} {te : TE} {tr : TA} {tl th : TO} {Φ : D → Prop}
/-- a def of a new list in an Env -/
theorem Env.newl {fz : List (V × D)} {M : Addr → Prop} {σ : L2.St} {H H1 : Hp} {vs : List V} {ds : List D} {p : Addr} {Ψ : List D → Prop} {Q : VK} (en : Env C fz M δ σ H) (e1 : Env C fz M δ σ H1) (x1 : Ext C.m.B H H1) (d1 : DtL C.K M H1 vs ds) (hp : H1 p = none) (q : Ψ ds)
    (k : ∀ xs p vs H', Ψ xs → H p = none → Env C fz (fun a => M a ∨ a = p) δ σ H' → Ext C.m.B H H' → H' p = some (.lst vs) → DtL C.K (fun a => M a ∨ a = p) H' vs xs → Q (.ref p) H') : Q (.ref p) (L2.upd H1 p (.lst vs)) :=
  k ds p vs _ q (back_none en x1 hp e1) (e1.plus hp (same_new hp) upd_same) (x1.trans (.of_same (same_new hp))) upd_same ((d1.plus hp).ext (.of_same (same_new hp)))
theorem en_list {Ψ : List D → Prop} {K : PySem.W.Frag} (hK : K = C.K) (h : EvA C tr δ fun ds => ∃ xs, (ds = [.lst xs] ∨ ds = [.tup xs]) ∧ Ψ xs) : EvN C (tCB (rListU K) tr) δ Ψ := fun fz M σ H en Q k =>
  h fz M σ H en _ fun ds vs H1 ⟨xs, e, q⟩ e1 x1 d1 => by
    subst hK
    rcases e with e | e
    · subst e
      obtain ⟨v, rfl, dv⟩ := dt1 d1
      obtain ⟨p, us, rfl, n1, h1, d2⟩ := dt_lst dv
      exact ⟨p, us, rfl, .inl (SqL.of h1), fun l hl => en.newl e1 x1 d2 hl q k⟩
    · subst e
      obtain ⟨v, rfl, dv⟩ := dt1 d1
      obtain ⟨p, us, rfl, h1, d2⟩ := dt_tup dv
      exact ⟨p, us, rfl, .inr h1, fun l hl => en.newl e1 x1 d2 hl q k⟩
theorem eo_none {Φ : Option Int → Prop} (q : Φ none) : EvO C tNoPart δ Φ := fun fz M σ H en Q k => k none H q en (Ext.refl _ _)
theorem eo_part {Φ : Option Int → Prop} (h : EvD C te δ fun d => ∃ i, d = .int i ∧ Φ (some i)) : EvO C (tPart te) δ Φ := fun fz M σ H en Q k =>
  h fz M σ H en _ fun d v H1 ⟨i, e, q⟩ e1 x1 d1 => by
    subst e
    cases d1
    exact ⟨i, rfl, k _ H1 q e1 x1⟩
/-- the items of xs[lo:hi] -/
def cutD (xs : List D) (lo hi : Option Int) : List D := (xs.drop (HT.sIx xs.length 0 lo)).take (HT.sIx xs.length xs.length hi - HT.sIx xs.length 0 lo)
theorem dtl_drop {K : PySem.W.Frag} {M : Addr → Prop} {H : Hp} : ∀ {vs : List V} {ds : List D} (n : Nat), DtL K M H vs ds → DtL K M H (vs.drop n) (ds.drop n)
  | _, _, 0, h => h
  | _, _, n + 1, .nil => .nil
  | _, _, n + 1, .cons a t => dtl_drop n t
theorem dtl_take {K : PySem.W.Frag} {M : Addr → Prop} {H : Hp} : ∀ {vs : List V} {ds : List D} (n : Nat), DtL K M H vs ds → DtL K M H (vs.take n) (ds.take n)
  | _, _, 0, h => .nil
  | _, _, n + 1, .nil => .nil
  | _, _, n + 1, .cons a t => .cons a (dtl_take n t)
theorem dtl_cut {K : PySem.W.Frag} {M : Addr → Prop} {H : Hp} {vs : List V} {ds : List D} (lo hi : Option Int) (h : DtL K M H vs ds) : DtL K M H (cutV vs lo hi) (cutD ds lo hi) := by
  unfold cutV cutD
  rw [h.length]
  exact dtl_take _ (dtl_drop _ h)
/-- xs[lo:hi] of a list: a new list -/
theorem en_cut {Ψ : List D → Prop} {K : PySem.W.Frag} (hK : K = C.K) (h : EvD C te δ fun d => EvO C tl δ fun lo => EvO C th δ fun hi => ∃ xs, d = .lst xs ∧ Ψ (cutD xs lo hi)) : EvN C (tSl (rSlU K) te tl th) δ Ψ := fun fz M σ H en Q k =>
  h fz M σ H en _ fun d v H1 h1 e1 x1 d1 => h1 fz M σ H1 e1 _ fun lo H2 h2 e2 x2 => h2 fz M σ H2 e2 _ fun hi H3 ⟨xs, e, q⟩ e3 x3 => by
    subst hK
    subst e
    obtain ⟨a, vs, rfl, n1, g1, dl⟩ := dt_lst (d1.ext ((x2.trans x3).mono e3.b))
    exact .inl ⟨a, vs, rfl, SqL.of g1, fun p hp => en.newl e3 ((x1.trans x2).trans x3) (dtl_cut lo hi dl) hp q k⟩
/-- of a text -/
theorem ev_cutS {K : PySem.W.Frag} (h : EvD C te δ fun d => EvO C tl δ fun lo => EvO C th δ fun hi => ∃ x, d = .str x ∧ x.length ≤ sizeLine ∧ Φ (.str (cutS x lo hi))) : EvD C (tSl (rSlU K) te tl th) δ Φ := fun fz M σ H en Q k =>
  h fz M σ H en _ fun d v H1 h1 e1 x1 d1 => h1 fz M σ H1 e1 _ fun lo H2 h2 e2 x2 => h2 fz M σ H2 e2 _ fun hi H3 ⟨x, e, hl, q⟩ e3 x3 => by
    subst e
    cases d1
    exact .inr (.inr ⟨x, rfl, hl, k _ _ H3 q e3 ((x1.trans x2).trans x3) (.str _)⟩)
/-- of a tuple (not the whole of it) -/
theorem ev_cutT {K : PySem.W.Frag} (hK : K = C.K) (h : EvD C te δ fun d => EvO C tl δ fun lo => EvO C th δ fun hi => ∃ xs, d = .tup xs ∧ ¬ (HT.sIx xs.length 0 lo = 0 ∧ HT.sIx xs.length xs.length hi = xs.length) ∧ Φ (.tup (cutD xs lo hi))) : EvD C (tSl (rSlU K) te tl th) δ Φ := fun fz M σ H en Q k =>
  h fz M σ H en _ fun d v H1 h1 e1 x1 d1 => h1 fz M σ H1 e1 _ fun lo H2 h2 e2 x2 => h2 fz M σ H2 e2 _ fun hi H3 ⟨xs, e, nw, q⟩ e3 x3 => by
    subst hK
    subst e
    obtain ⟨a, vs, rfl, g1, dl⟩ := dt_tup (d1.ext ((x2.trans x3).mono e3.b))
    refine .inr (.inl ⟨a, vs, rfl, g1, by rw [dl.length]; exact nw, fun p hp => ?_⟩)
    exact k _ _ _ q (e3.same (same_new hp)) (((x1.trans x2).trans x3).trans (.of_same (same_new hp))) (.tup (e3.nm hp) (.inl upd_same) ((dtl_cut lo hi dl).ext (.of_same (same_new hp))))
end
end Wn
end

section
/-! Objects being made, the start of a def, the end of a law. -/
namespace Wn
open PySem PySem.Spec PyProof.Rows L2

/-! ### an __init__ -/
def initM (x : Addr) : Mode where
  B := fun a => a = x
  I := fun H => ∃ c dx fv, H x = some (.ins c dx fv)
  al := fun H a ⟨c, dx, fv, h⟩ e => by rw [e, h]; exact fun z => by cases z
  st := fun H0 H1 H2 ⟨c0, dx0, fv0, h0⟩ ⟨c, dx, fv, h⟩ k => ⟨c, dx, fv, by rw [k x (by rw [h0]; exact fun z => by cases z), h]⟩
abbrev FInit := List D → (List (Str × D) → Prop) → Ex → Prop
def spInit (K : PySem.W.Frag) (c : Addr) (F : FInit) : Sp := fun vs H Q E => ∃ (M : Addr → Prop) (x dx : Addr) (us : List V) (ds : List D) (X : Ex) (Φ : List (Str × D) → Prop), vs = .ref x :: us ∧ H x = some (.ins c dx []) ∧ M x ∧ (∀ a, M a → H a ≠ none) ∧ DtL K M H us ds ∧
  TakesX K (initM x) M H X E ∧ F ds Φ X ∧ ∀ fs H' dx' fv, Φ fs → Ext (initM x).B H H' → H' x = some (.ins c dx' fv) → DtF K M H' fv fs → Q .non H'
theorem spInit_len {K : PySem.W.Frag} {c : Addr} {F : FInit} {n : Nat} (h : ∀ ds Φ X, F ds Φ X → ds.length = n) : ∀ vs H Q E, spInit K c F vs H Q E → vs.length = n + 1 :=
  fun vs H Q E ⟨M, x, dx, us, ds, X, Φ, e, _, _, _, d, _, f, _⟩ => by rw [e, List.length_cons, d.length, h _ _ _ f]
def putD (f : Str) (v : D) : List (Str × D) → List (Str × D)
  | [] => [(f, v)]
  | (g, x) :: r => if g = f then (g, v) :: r else (g, x) :: putD f v r
theorem dtf_put {K : PySem.W.Frag} {M : Addr → Prop} {H : Hp} {f : Str} {v : V} {d : D} (h : Dt K M H v d) : ∀ {fv : List (Str × V)} {fs : List (Str × D)}, DtF K M H fv fs → DtF K M H (putF f v fv) (putD f d fs)
  | _, _, .nil => .cons h .nil
  | _, _, @DtF.cons _ _ _ g w e fv fs a t => by
    unfold putF putD
    by_cases q : g = f
    · rw [if_pos q, if_pos q]
      exact .cons h t
    · rw [if_neg q, if_neg q]
      exact .cons a (dtf_put h t)
theorem DtF.length {K : PySem.W.Frag} {M : Addr → Prop} {H : Hp} : ∀ {fv : List (Str × V)} {fs : List (Str × D)}, DtF K M H fv fs → fv.length = fs.length
  | _, _, .nil => rfl
  | _, _, .cons _ t => congrArg (· + 1) (DtF.length t)
section
variable {C : Ctx} {fz : List (V × D)} {M N : Addr → Prop} {δ : List Sl} {σ : L2.St} {H H' : Hp} {P : DE} {te ta tb : TE} {i : Nat} {x : Addr}
/-- self.f = e -/
theorem b_fld {K : PySem.W.Frag} {c : Addr} {f : Str} {fs : List (Str × D)} (hK : K = C.K) (hm : C.m = initM x) (hi : δ[i]? = some (.new c fs)) (hc : Cls K c) (hn : NoAttr K c f) (hl : fs.length < 1000)
    (h : EvD C te δ fun d => P.nx (δ.set i (.new c (putD f d fs)))) : Blk C (sFld K (tVar i) te f) δ P := fun fz M σ H en D' l =>
  h fz M σ H en _ fun d v H1 q e1 x1 d1 => by
    subst hK
    obtain ⟨w, h1, hw, p, dx, fv, rfl, mp, bp, hp, df⟩ := e1.sl i _ hi
    refine ⟨.ref p, h1, p, c, dx, fv, rfl, hp, hc, hn, by rw [df.length]; exact hl, l.nx M σ _ _ q ?_⟩
    have px : p = x := by rw [hm] at bp; exact bp
    have ex : Ext M H1 (L2.upd H1 p (.ins c dx (putF f v fv))) := fun a o n ha => by
      rw [upd_ne (fun e => n (by rw [e]; exact mp))]
      exact ha
    refine ⟨e1.ok, by rw [List.length_set]; exact e1.ln, fun j s hj => ?_, fun q hq => (e1.fzs q hq).ext ex, fun j k s s' l hj hk mj mk ej ek => ?_, e1.m0, fun a ha => ?_, fun a o n ha => ?_, ?_⟩
    · rcases set_cases hj with ⟨a1, b1⟩ | ⟨n1, g1⟩
      · subst a1
        subst b1
        exact ⟨_, h1, hw, p, dx, _, rfl, mp, bp, upd_same, (dtf_put d1 df).ext ex⟩
      · obtain ⟨w, q1, q2⟩ := e1.sl j s g1
        refine ⟨w, q1, ?_⟩
        cases s with
        | no => trivial
        | d x =>
          obtain ⟨u, r1, r2⟩ := q2
          exact ⟨u, r1, r2.ext ex⟩
        | own zs =>
          obtain ⟨l, us, r1, r2, r3, r4, r5⟩ := q2
          refine ⟨l, us, r1, r2, r3, ?_, r5.ext ex⟩
          rw [upd_ne (fun e : l = p => e1.nb r3 (by rw [e]; exact bp))]
          exact r4
        | new c' fs' =>
          obtain ⟨_, l, dx', fv', r1, r2, r3, r4, r5⟩ := q2
          have lx : l = x := by rw [hm] at r3; exact r3
          subst r1
          exact absurd (e1.inj j i _ _ l g1 hi trivial trivial q1 (by rw [h1, px, lx])) n1
    · have o1 : ∃ s1, δ[j]? = some s1 ∧ s1.mut := by
        rcases set_cases hj with ⟨a1, b1⟩ | ⟨n1, g1⟩
        · exact ⟨Sl.new c fs, by rw [a1]; exact hi, trivial⟩
        · exact ⟨_, g1, mj⟩
      have o2 : ∃ s1, δ[k]? = some s1 ∧ s1.mut := by
        rcases set_cases hk with ⟨a1, b1⟩ | ⟨n1, g1⟩
        · exact ⟨Sl.new c fs, by rw [a1]; exact hi, trivial⟩
        · exact ⟨_, g1, mk⟩
      obtain ⟨s1, y1, z1⟩ := o1
      obtain ⟨s2, y2, z2⟩ := o2
      exact e1.inj j k s1 s2 l y1 y2 z1 z2 ej ek
    · by_cases e : a = p
      · rw [e, upd_same]
        exact fun z => by cases z
      · rw [upd_ne e]
        exact e1.al a ha
    · rw [upd_ne (fun e => n (by rw [e]; exact bp))]
      exact e1.ext a o n ha
    · rw [hm]
      exact ⟨c, dx, _, by rw [← px, upd_same]⟩
/-- C(..) -/
theorem ev_mk {K : PySem.W.Frag} (hK : K = C.K) {c : Addr} {n j : Nat} {F : FInit} {gV gR : List V → List V → List V} {gD : List D → List D → List D} {t tk : TA} {Φ : D → Prop} (hnw : ¬ C.nw) (hv : ∀ x vs zs, gV (.ref x :: vs) zs = .ref x :: gR vs zs)
    (hg : ∀ M H vs zs ds es, DtL C.K M H vs ds → DtL C.K M H zs es → DtL C.K M H (gR vs zs) (gD ds es))
    (h : EvA C t δ fun ds => EvA C tk δ fun es => ds.length = n ∧ es.length = j ∧ F (gD ds es) (fun fs => Φ (.obj c fs)) C.X) : EvD C (tMk c n j (spInit K c F) gV C.E t tk) δ Φ := fun fz M σ H en Q k =>
  h fz M σ H en _ fun ds vs H1 h1 e1 x1 d1 => h1 fz M σ H1 e1 _ fun es zs H2 ⟨l1, l2, h2⟩ e2 x2 d2 => by
    subst hK
    refine ⟨(d1.length).trans l1, (d2.length).trans l2, fun x dx hx hdx ne => ?_⟩
    rw [hv]
    have s2 : Same H2 (L2.upd (L2.upd H2 dx (.own x)) x (.ins c dx [])) := fun a o ha => by
      rw [upd_ne (ne_of_none ha hx), upd_ne (ne_of_none ha hdx)]
      exact ha
    have args := (hg _ _ _ _ _ _ (d1.ext (x2.mono e2.b)) d2)
    have back : ∀ {H3 : Hp}, Ext (initM x).B (L2.upd (L2.upd H2 dx (.own x)) x (.ins c dx [])) H3 → Same H2 H3 := fun {H3} e a o ha => e a o (fun z => by
      have z' : a = x := z
      rw [z', hx] at ha
      cases ha) (s2 a o ha)
    refine ⟨fun a => M a ∨ a = x, x, dx, gR vs zs, gD ds es, C.X, _, rfl, upd_same, .inr rfl, fun a ha => ?_, (args.plus hx).ext (.of_same s2), fun cc fs H3 hX e3 i3 => ?_, h2, fun fs H3 dx3 fv p e3 hx3 df => ⟨rfl, ?_⟩⟩
    · rcases ha with ha | ha
      · exact (e2.same s2).al a ha
      · rw [ha, upd_same]
        exact fun z => by cases z
    · have e' := e2.same (back e3)
      obtain ⟨t1, t2⟩ := e2.ok.tx cc fs H3 hX e'.ext e'.inv
      refine ⟨fun d fv q1 q2 q3 => t1 d fv q1 (e2.fresh ?_) (q3.to (fun a z => .inl (e2.m0 a z)) (Ext.refl _ _)), t2⟩
      cases q : H2 d with
      | none => rfl
      | some o => rw [s2 d o q] at q2; cases q2
    · have s3 := back e3
      exact k _ _ H3 p (e2.same s3) ((x1.trans x2).trans (.of_same s3)) (.obj (e2.nm hx) hx3 (df.to (fun a z => .inl z) (Ext.refl _ _)))
end

/-! ### a def's start -/
def slots (n : Nat) (ds : List D) : List Sl := ds.map Sl.d ++ List.replicate (n - ds.length) Sl.no
theorem start_env {K : PySem.W.Frag} {m : Mode} {M : Addr → Prop} {H : Hp} {X : Ex} {E : XK} {N : List Str} {vs : List V} {ds : List D} (b : ∀ a, m.B a → M a) (al : ∀ a, M a → H a ≠ none) (d : DtL K M H vs ds) (i : m.I H) (tx : TakesX K m M H X E) :
    Env ⟨K, m, M, H, X, E, False⟩ [] M (slots N.length ds) (start N vs) H where
  ok := ⟨b, al, i, tx⟩
  ln := by
    have := d.length
    simp [slots, L2.start, this]
  sl := fun j s h => by
    unfold slots at h
    unfold L2.start
    by_cases hj : j < ds.length
    · rw [List.getElem?_append_left (by simpa using hj), List.getElem?_map] at h
      cases e : ds[j]? with
      | none => rw [e] at h; cases h
      | some x =>
        rw [e] at h
        cases h
        obtain ⟨v, h1, h2⟩ := d.get e
        exact ⟨some v, by rw [List.getElem?_append_left (by simpa [d.length] using hj), List.getElem?_map, h1]; rfl, v, rfl, h2⟩
    · rw [List.getElem?_append_right (by simpa using hj)] at h
      have hs : s = .no := by
        have := List.mem_of_getElem? h
        exact (List.mem_replicate.mp this).2
      subst hs
      have hl := lt_of_some h
      rw [List.length_map] at h hl
      rw [List.length_replicate] at hl
      refine ⟨none, ?_, trivial⟩
      rw [List.getElem?_append_right (by simpa [d.length] using hj), List.length_map, d.length, List.getElem?_replicate, if_pos (by omega)]
  fzs := fun p h => by cases h
  inj := fun j k s t l h1 h2 m1 m2 _ _ => by
    have key : ∀ (j : Nat) s, (slots N.length ds)[j]? = some s → ¬ s.mut := fun j s h z => by
      have hm := List.mem_of_getElem? h
      unfold slots at hm
      rcases List.mem_append.mp hm with hm | hm
      · obtain ⟨x, _, e⟩ := List.mem_map.mp hm
        rw [← e] at z
        exact z
      · rw [(List.mem_replicate.mp hm).2] at z
        exact z
    exact absurd m1 (key j s h1)
  m0 := fun a h => h
  al := al
  ext := Ext.refl _ _
  inv := i
/-- a body over trees keeps its contract -/
theorem lift_of {K : PySem.W.Frag} {m : Mode} {F : FSpec} {N : List Str} {t : XK → TS} {vs : List V} {H : Hp} {Q : VK} {E : XK}
    (h : ∀ (C : Ctx) (ds : List D) (Φ : D → Prop), C.K = K → C.m = m → C.E = E → ¬ C.nw → F ds Φ C.X → Blk C (t E) (slots N.length ds) { nx := fun _ => Φ .non, rt := Φ })
    (hs : lift K m F vs H Q E) : t E { nx := fun _ H' => Q .non H', rt := Q } (start N vs) H := by
  obtain ⟨M, ds, X, Φ, b, al, d, i, tx, f, k⟩ := hs
  have en := start_env (N := N) b al d i tx
  exact h ⟨K, m, M, H, X, E, False⟩ ds Φ rfl rfl rfl (fun z => z) f [] M _ H en _ ⟨fun M' σ' H' δ' p e => k .non .non H' p e.ext e.inv .non, fun v H' d' p e1 e2 e3 => k d' v H' p e1 e2 e3, fun _ _ _ _ z => z.elim, fun _ _ _ _ z => z.elim, fun _ _ _ _ z => z.elim⟩
/-- the same of an __init__ -/
theorem init_of {K : PySem.W.Frag} {c : Addr} {F : FInit} {N : List Str} {t : XK → TS} {vs : List V} {H : Hp} {Q : VK} {E : XK} (hN : 0 < N.length)
    (h : ∀ (C : Ctx) (x : Addr) (ds : List D) (Φ : List (Str × D) → Prop), C.K = K → C.m = initM x → C.E = E → C.nw → F ds Φ C.X → Blk C (t E) (.new c [] :: slots (N.length - 1) ds) { nx := fun δ => ∃ fs, δ[0]? = some (.new c fs) ∧ Φ fs, rt := fun _ => False })
    (hs : spInit K c F vs H Q E) : t E { nx := fun _ H' => Q .non H', rt := Q } (start N vs) H := by
  obtain ⟨M, x, dx, us, ds, X, Φ, rfl, hx, mx, al, d, tx, f, k⟩ := hs
  have ia : (initM x).I H := ⟨c, dx, [], hx⟩
  have e0 := start_env (m := initM x) (N := N.drop 1) (fun a z => by rw [show a = x from z]; exact mx) al d ia tx
  have es : start N (.ref x :: us) = some (.ref x) :: start (N.drop 1) us := by
    cases N with
    | nil => cases hN
    | cons n r => simp [L2.start]
  have el : (N.drop 1).length = N.length - 1 := List.length_drop
  rw [el] at e0
  have en : Env ⟨K, initM x, M, H, X, E, True⟩ [] M (.new c [] :: slots (N.length - 1) ds) (start N (.ref x :: us)) H := by
    rw [es]
    refine ⟨⟨fun a z => by rw [show a = x from z]; exact mx, al, ia, tx⟩, ?_, fun j s hj => ?_, (fun p h => (by cases h)), fun j k s s' l hj hk mj mk _ _ => ?_, fun a z => z, al, Ext.refl _ _, ia⟩
    · rw [List.length_cons, List.length_cons, e0.ln]
    · cases j with
      | zero =>
        cases hj
        exact ⟨some (.ref x), rfl, trivial, x, dx, [], rfl, mx, rfl, hx, .nil⟩
      | succ j =>
        obtain ⟨v, h1, h2⟩ := e0.sl j s hj
        refine ⟨v, h1, ?_⟩
        cases s with
        | no => trivial
        | d y => exact h2
        | own _ => exact h2
        | new _ _ => exact h2.1.elim
    · have nm : ∀ (j : Nat) s, (slots (N.length - 1) ds)[j]? = some s → ¬ s.mut := fun j s h z => by
        have hm := List.mem_of_getElem? h
        unfold slots at hm
        rcases List.mem_append.mp hm with hm | hm
        · obtain ⟨y, _, e⟩ := List.mem_map.mp hm
          rw [← e] at z
          exact z
        · rw [(List.mem_replicate.mp hm).2] at z
          exact z
      cases j with
      | zero => cases k with
        | zero => rfl
        | succ k => exact absurd mk (nm k s' hk)
      | succ j => exact absurd mj (nm j s hj)
  exact h ⟨K, initM x, M, H, X, E, True⟩ x ds Φ rfl rfl rfl trivial f [] M _ H en _ ⟨fun M' σ' H' δ' ⟨fs, h0, p⟩ e => by
    obtain ⟨v, h1, _, l, dx', fv, rfl, ml, bl, hl, df⟩ := e.sl 0 _ h0
    have lx : l = x := bl
    subst lx
    exact k fs H' dx' fv p e.ext hl (df.to e.m0 (Ext.refl _ _)), fun v H' d' p _ _ _ => p.elim, fun _ _ _ _ z => z.elim, fun _ _ _ _ z => z.elim, fun _ _ _ _ z => z.elim⟩
end Wn
end

section
/-! A law's bag of draws; what a law draws is any number below what is asked. Walks of any kind; the start of a law. -/
namespace Wn
open PySem PySem.Spec PyProof.Rows L2

theorem passE {X : Cx} {E : XK} : Passes CX0 X E := fun _ _ _ _ _ _ _ h => h.elim
theorem passN {P : Program} {w : World} {K : PySem.W.Frag} {mg : Str → Option Value} {base : Heap} {N : List Str} {qual : Str} {scope : Scope} {f : Addr} {cd : Value} {A : Around} {outer : List PySem.Env} {s : Shared} {H : Hp} {E : XK} {CX : CXT} :
    PassesOwn (model P w) (cxOf CX P w K mg base N qual scope f cd A outer s H E).A (cxOf CX P w K mg base N qual scope f cd A outer s H E).env (cxOf CX P w K mg base N qual scope f cd A outer s H E).xe := passes_of (K := fun e s'' => CX outer H s E e s'') rfl
section
variable {X : Cx} {x : Str} {pos : Pos}
theorem pe_gint {i : Int} (hg : Gl X x) (hm : ∃ t, X.mg x = some (.int i t)) (hd : (x == ("__debug__" : Str)) = false := by decide) : PE X (.Name x pos) (tC (.int i)) := by
  obtain ⟨t, h⟩ := hm
  exact pe_glob hg h ⟨t, rfl⟩ hd
theorem pe_gstr {z : Str} (hg : Gl X x) (hm : ∃ t, X.mg x = some (.str z t)) (hd : (x == ("__debug__" : Str)) = false := by decide) : PE X (.Name x pos) (tC (.str z)) := by
  obtain ⟨t, h⟩ := hm
  exact pe_glob hg h ⟨t, rfl⟩ hd
end
/-- all is given by place -/
def gvAll : List V → List V → List V := fun vs _ => vs ++ []
theorem Bd.all {K : PySem.W.Frag} {fd : FuncData} {ps : List Str} {n : Nat} (b : Binds K fd ps []) (hn : n = ps.length) : Bd K fd ps n [] gvAll := Bd.of_binds b .nil (by simp [hn])
def gdAll : List D → List D → List D := fun ds _ => ds
theorem gAll {K : PySem.W.Frag} : ∀ M H vs zs ds es, DtL K M H vs ds → DtL K M H zs es → DtL K M H (gvAll vs zs) (gdAll ds es) := fun M H vs zs ds es h _ => by
  show DtL K M H (vs ++ []) ds
  rw [List.append_nil]
  exact h

/-! ### what is walked: a list, a tuple, a text -/
def iU (K : PySem.W.Frag) (te : TE) : TI := fun σ H R => iList K te σ H R ∨ iTup K te σ H R ∨ iStr te σ H R
theorem pi_or {X : Cx} {tg e : Expr} {a b : TI} (h : PI X tg e a) (h' : PI X tg e b) : PI X tg e (fun σ H R => a σ H R ∨ b σ H R) := ⟨fun pins s σ H R I q => q.elim (h.run pins s σ H R I) (h'.run pins s σ H R I)⟩
theorem pi_U {X : Cx} {tg e : Expr} {te : TE} (h : PE X e te) : PI X tg e (iU X.K te) := pi_or (pi_list h) (pi_or (pi_tup h) (pi_str h))
section
variable {C : Ctx} {δ : List Sl} {P : DE} {te tl : TE} {tt : TT} {t : TS} {g : TG} {K : PySem.W.Frag} {Φ : List D → Prop} {vs : List Nat}
theorem b_uL (h : Blk C (tFor (iList K tl) g t) δ P) : Blk C (tFor (iU K tl) g t) δ P := fun fz M σ H en D' l => .inl (h fz M σ H en D' l)
theorem b_uT (h : Blk C (tFor (iTup K tl) g t) δ P) : Blk C (tFor (iU K tl) g t) δ P := fun fz M σ H en D' l => .inr (.inl (h fz M σ H en D' l))
theorem b_uS (h : Blk C (tFor (iStr tl) g t) δ P) : Blk C (tFor (iU K tl) g t) δ P := fun fz M σ H en D' l => .inr (.inr (h fz M σ H en D' l))
theorem en_uL (h : EvN C (tLc (iList K tl) g tt te vs) δ Φ) : EvN C (tLc (iU K tl) g tt te vs) δ Φ := fun fz M σ H en D' l => .inl (h fz M σ H en D' l)
theorem en_uT (h : EvN C (tLc (iTup K tl) g tt te vs) δ Φ) : EvN C (tLc (iU K tl) g tt te vs) δ Φ := fun fz M σ H en D' l => .inr (.inl (h fz M σ H en D' l))
theorem en_uS (h : EvN C (tLc (iStr tl) g tt te vs) δ Φ) : EvN C (tLc (iU K tl) g tt te vs) δ Φ := fun fz M σ H en D' l => .inr (.inr (h fz M σ H en D' l))
/-- for x in a text -/
theorem b_forS {z : Str} (W : Nat → List Sl → Prop) (h : EvD C tl δ fun d => d = .str z) (h0 : W 0 δ)
    (hs : ∀ (k : Nat) c δ', z.cps.toList[k]? = some c → W k δ' → GOk C g (.str ⟨#[c]⟩) δ' fun δ2 => Blk C t δ2 { nx := W (k + 1), ct := W (k + 1), bk := P.nx, rt := P.rt, rn := P.rn })
    (hd : ∀ δ', W z.cps.toList.length δ' → P.nx δ') : Blk C (tFor (iStr tl) g t) δ P := fun fz M σ H en D' l =>
  h fz M σ H en _ fun d v H1 e e1 x1 d1 => by
    subst e
    cases d1
    refine ⟨z, rfl, fun i m σ' H' => m = z.cps.size - i ∧ i ≤ z.cps.size ∧ ∃ δ' M', W i δ' ∧ Env C fz M' δ' σ' H', ⟨_, rfl, Nat.zero_le _, δ, M, h0, e1⟩, ?_⟩
    rintro i m σ' H' ⟨rfl, hi, δ', M', w, e'⟩
    by_cases hlt : i < z.cps.size
    · refine .inr ⟨hlt, fun σ2 H2 => ∃ δ2 M2, W (i + 1) δ2 ∧ Env C fz M2 δ2 σ2 H2, fun σ2 H2 ⟨δ2, M2, w2, e2⟩ => ⟨_, by omega, rfl, hlt, δ2, M2, w2, e2⟩, fun x H2 ⟨eq, c, hc, hx⟩ => ?_⟩
      subst eq
      subst hx
      have hc' : z.cps.toList[i]? = some c := by simpa using hc
      exact hs i c δ' hc' w _ M' σ' _ _ e' (.str _) _ fun δ2 σ2 q e2 => q _ M' σ2 _ e2 _ ⟨fun M3 σ3 H3 δ3 q3 e3 => ⟨δ3, M3, q3, e3⟩, l.rt, fun M3 σ3 H3 δ3 q3 e3 => l.nx M3 σ3 H3 δ3 q3 e3, fun M3 σ3 H3 δ3 q3 e3 => ⟨δ3, M3, q3, e3⟩, l.rn⟩
    · refine .inl ⟨Nat.le_of_not_lt hlt, l.nx M' σ' H' δ' (hd δ' ?_) e'⟩
      have : i = z.cps.toList.length := by simp; omega
      rw [← this]
      exact w
end

/-! ### the bag -/
structure Bg where
  b : Addr
  c : Addr
  cells : List Int
  ne : b ≠ c
  pos : ∀ x ∈ cells, 0 ≤ x
/-- the bag at b: what is left, the state, the place, the cells -/
def BagI (B : Bg) (H : Hp) : Prop := ∃ a s i : Int, H B.b = some (.lst [.int a, .int s, .int i, .ref B.c]) ∧ 0 ≤ a ∧ 0 ≤ s ∧ s < 2147483647 ∧ 0 ≤ i ∧ H B.c = some (.lst (B.cells.map V.int))
def bagM (B : Bg) : Mode where
  B := fun a => a = B.b
  I := BagI B
  al := fun H a ⟨_, _, _, h, _⟩ e => by rw [e, h]; exact fun z => by cases z
  st := fun H0 H1 H2 ⟨_, _, _, h0, _, _, _, _, c0⟩ ⟨a, s, i, h1, p1, p2, p3, p4, c1⟩ k => ⟨a, s, i, by rw [k B.b (by rw [h0]; exact fun z => by cases z), h1], p1, p2, p3, p4, by rw [k B.c (by rw [c0]; exact fun z => by cases z), c1]⟩
/-- a contract of a def that draws -/
def liftB (K : PySem.W.Frag) (F : Bg → FSpec) : Sp := fun vs H Q E => ∃ B : Bg, lift K (bagM B) (F B) vs H Q E
theorem liftB_len {K : PySem.W.Frag} {F : Bg → FSpec} {n : Nat} (h : ∀ B ds Φ X, F B ds Φ X → ds.length = n) : ∀ vs H Q E, liftB K F vs H Q E → vs.length = n := fun vs H Q E ⟨B, q⟩ => lift_len (h B) vs H Q E q
def F_l_take (B : Bg) : FSpec := fun ds Φ _ => ∃ m : Int, ds = [.adr B.b, .int m] ∧ 0 < m ∧ m.natAbs.log2 < 9000 ∧ ∀ v : Int, 0 ≤ v → v < m → Φ (.int v)
section
variable {C : Ctx} {δ : List Sl} {Φ : D → Prop} {ta tn : TE} {B : Bg}
theorem ev_clB {n j : Nat} {F : Bg → FSpec} {gV : List V → List V → List V} {gD : List D → List D → List D} {t tk : TA} (hm : C.m = bagM B) (hw : ¬ C.nw) (hg : ∀ M H vs zs ds es, DtL C.K M H vs ds → DtL C.K M H zs es → DtL C.K M H (gV vs zs) (gD ds es)) {K : PySem.W.Frag} (hK : K = C.K)
    (h : EvA C t δ fun ds => EvA C tk δ fun es => ds.length = n ∧ es.length = j ∧ F B (gD ds es) Φ C.X) : EvD C (tCl n j (liftB K F) gV C.E t tk) δ Φ := fun fz M σ H en Q k =>
  h fz M σ H en _ fun ds vs H1 h1 e1 x1 d1 => h1 fz M σ H1 e1 _ fun es zs H2 ⟨l1, l2, h2⟩ e2 x2 d2 =>
    ⟨(d1.length).trans l1, (d2.length).trans l2, B, by
      subst hK
      have q := (Sub.own hw).call e2 (hg _ _ _ _ _ _ (d1.ext (x2.mono e2.b)) d2) h2 (fun d v H3 p e3 x3 => k d v H3 p e3 ((x1.trans x2).trans x3))
      rw [hm] at q
      exact q⟩
/-- a draw below m -/
theorem ev_take {K : PySem.W.Frag} (hK : K = C.K) (hm : C.m = bagM B) (hw : ¬ C.nw) (h : EvD C ta δ fun d => d = .adr B.b ∧ EvD C tn δ fun d => ∃ m : Int, d = .int m ∧ 0 < m ∧ m.natAbs.log2 < 9000 ∧ ∀ v : Int, 0 ≤ v → v < m → Φ (.int v)) :
    EvD C (tCl 2 0 (liftB K F_l_take) gvAll C.E (tCons ta (tCons tn tNil)) tNil) δ Φ :=
  ev_clB hm hw gAll hK (ea_cons (h.mono fun d ⟨e, h2⟩ => ea_cons (h2.mono fun d2 ⟨m, e2, h3, h4, h5⟩ => ea_nil (ea_nil ⟨rfl, rfl, m, by rw [e, e2]; rfl, h3, h4, h5⟩))))
end

/-! ### item stores by values -/
def rGetL (K : PySem.W.Frag) : V → V → Hp → VK → Prop := fun o i H Q => ∃ (p : Addr) (xs : List V) (k : Nat) (v : V), o = .ref p ∧ i = .int (k : Int) ∧ SqL K H p xs ∧ xs[k]? = some v ∧ Q v H
theorem get_list {X : Cx} : PGet X (rGetL X.K) := fun pins s σ H o i ov iv Q I ro ri h => by
  obtain ⟨p, xs, k, v, rfl, rfl, hs, ha, q⟩ := h
  cases ro
  obtain ⟨t, rfl⟩ := ri
  obtain ⟨its, r, pl, hz⟩ := I.list hs
  obtain ⟨w, ew, rw'⟩ := r.get ha
  have hl := r.length
  have hn := line63
  have hk := lt_of_some ha
  exact wpAny_getItem_list pl.isList (by omega) (by omega) (by simpa using ew) ⟨v, H, I, rw', q⟩
section
variable {K : PySem.W.Frag} {σ : L2.St} {H : Hp} {Q : VK} {b : Addr} {xs : List V} {v : V}
theorem bx (j : Int) (h0 : σ[0]? = some (some (.ref b))) (hb : H b = some (.lst xs)) (hx : atI xs j = some v) (q : Q v H) : tOp (rIx K) (tVar 0) (tC (.int j)) σ H Q := ⟨_, h0, .inl ⟨b, xs, j, v, rfl, rfl, SqL.of hb, hx, q⟩⟩
end
def t_l_take2 (K : PySem.W.Frag) : TS :=
    (tSeq (tIfS (tTest (tOp rGtU (tOp (rIx K) (tVar 0) (tC (.int 0))) (tC (.int 0))))
     (tSeq (tAsg (tOp rModU (tOp (rIx K) (tVar 0) (tC (.int 0))) (tVar 1)) (gName 3))
      (tSeq (tAsg (tOp rDivU (tOp (rIx K) (tVar 0) (tC (.int 0))) (tVar 1)) (gSub (tVar 0) (tC (.int 0)) rSetL))
      (tRet (tVar 3))))
     tNext)
    (tSeq (tAsg (tOp rModU (tOp rMulU (tOp (rAddU K) (tOp (rIx K) (tVar 0) (tC (.int 1))) (tC (.int 1))) (tC (.int 39373))) (tC (.int 1000000007))) (gName 4))
    (tSeq (tAsg (tOp rModU (tOp rMulU (tOp rModU (tOp rMulU (tVar 4) (tVar 4)) (tC (.int 998244353))) (tC (.int 30011))) (tC (.int 998244353))) (gName 5))
    (tSeq (tIfS (tTest (tOp rGtU (tVar 1) (tC (.int 1000000))))
     (tRet (tOp rModU (tOp (rAddU K) (tOp rMulU (tVar 5) (tC (.int 1000000007))) (tVar 4)) (tVar 1)))
     tNext)
    (tRet (tOp rModU (tOp rDivU (tVar 5) (tC (.int 7))) (tVar 1)))))))
def t_l_take (K : PySem.W.Frag) (E : XK) : TS :=
    (tSeq (tIfS (tTest (tOp (rEqU K) (tOp (rIx K) (tVar 0) (tC (.int 0))) (tC (.int 0))))
     (tSeq (tAsg (tC (.int 0)) (gName 2))
      (tSeq (tIfS (tTest (tOp rLtU (tOp (rIx K) (tVar 0) (tC (.int 2))) (tCB (rLenU K) (tCons (tOp (rIx K) (tVar 0) (tC (.int 3))) tNil))))
       (tAsg (tOp (rIx K) (tOp (rIx K) (tVar 0) (tC (.int 3))) (tOp (rIx K) (tVar 0) (tC (.int 2)))) (gName 2))
       tNext)
      (tSeq (tAugS (tVar 0) (tC (.int 2)) (tC (.int 1)) (rGetL K) (ipI fun i j => i + j) rSetL)
      (tSeq (tIfS (tTest (tOp rGeU (tVar 2) (tC (.int 1000000000000000000))))
       (tAsg (tVar 2) (gSub (tVar 0) (tC (.int 0)) rSetL))
       tNext)
      (tAsg (tOp rModU (tOp (rAddU K) (tOp (rAddU K) (tOp rMulU (tOp (rIx K) (tVar 0) (tC (.int 1))) (tC (.int 48271))) (tOp rModU (tVar 2) (tC (.int 2147483647)))) (tOp rMulU (tC (.int 7919)) (tOp (rIx K) (tVar 0) (tC (.int 2))))) (tC (.int 2147483647))) (gSub (tVar 0) (tC (.int 1)) rSetL))))))
     tNext)
    (t_l_take2 K))
theorem upd_id {H : Hp} {a : Addr} {o : HO} (h : H a = some o) : upd H a o = H := by
  funext b
  by_cases e : b = a
  · rw [e, upd_same, h]
  · rw [upd_ne e]
/-- behind the first block -/
def TkMid (B : Bg) (m : Int) (H : Hp) (σ : L2.St) (H' : Hp) : Prop := ∃ (x : Option V) (a s i : Int), σ = [some (.ref B.b), some (.int m), x, none, none, none] ∧ H' = upd H B.b (.lst [.int a, .int s, .int i, .ref B.c]) ∧ 0 ≤ a ∧ 0 ≤ s ∧ s < 2147483647 ∧ 0 ≤ i
theorem itb {c A B : Prop} [Decidable c] (h1 : c → A) (h2 : ¬ c → B) : if (decide c) = true then A else B := by
  by_cases h : c
  · rw [if_pos (decide_eq_true h)]; exact h1 h
  · rw [if_neg (by rw [decide_eq_false h]; decide)]; exact h2 h
theorem pure_l_take {K : PySem.W.Frag} {vs : List V} {H : Hp} {Q : VK} {E : XK} (h : liftB K F_l_take vs H Q E) : t_l_take K E { nx := fun _ H' => Q .non H', rt := Q } (L2.start ["a", "b", "c", "d", "e", "f"] vs) H := by
  obtain ⟨B, M, ds, X, Φ, mb, al, d, ⟨a, s, i, hb, ha, hs, hs2, hi, hc⟩, tx, ⟨m, rfl, hm, hml, f⟩, k⟩ := h
  obtain ⟨v1, v2, rfl, d1, d2⟩ := dt2 d
  cases d1
  cases d2
  have ne := B.ne
  have fin : ∀ (v : Int) (H' : Hp) (a s i : Int), H' = upd H B.b (.lst [.int a, .int s, .int i, .ref B.c]) → 0 ≤ v → v < m → 0 ≤ a → 0 ≤ s → s < 2147483647 → 0 ≤ i → Q (.int v) H' := by
    rintro v H' a s i rfl h0 h1 h2 h3 h4 h5
    refine k (.int v) (.int v) _ (f v h0 h1) (fun x o n e => ?_) ⟨a, s, i, upd_same, h2, h3, h4, h5, ?_⟩ (.int v)
    · rw [upd_ne n]
      exact e
    · rw [upd_ne (Ne.symm ne)]
      exact hc
  -- the rest, from the middle
  have rest : ∀ σ H', TkMid B m H σ H' → t_l_take2 K { nx := fun _ H' => Q .non H', rt := Q } σ H' := fun σ H' h => by
    obtain ⟨x, a, s, i, rfl, rfl, h2, h3, h4, h5⟩ := h
    have hb' : (upd H B.b (.lst [.int a, .int s, .int i, .ref B.c])) B.b = some (.lst [.int a, .int s, .int i, .ref B.c]) := upd_same
    refine bx 0 rfl hb' rfl (.inl ⟨a, 0, rfl, rfl, _, rfl, itb (fun ap => ?_) fun an => ?_⟩)
    · refine bx 0 rfl hb' rfl ⟨_, rfl, a, m, rfl, rfl, hm, ?_⟩
      refine bx 0 rfl hb' rfl ⟨_, rfl, a, m, rfl, rfl, ⟨hm, hml⟩, ?_⟩
      refine ⟨_, rfl, B.b, _, 0, 0, rfl, rfl, hb', rfl, _, rfl, fin _ _ (a / m) s i (by rw [upd_upd]; rfl) (Int.emod_nonneg _ (by omega)) (Int.emod_lt_of_pos _ hm) (Int.ediv_nonneg h2 (by omega)) h3 h4 h5⟩
    · refine bx 1 rfl hb' rfl (.inl ⟨s, 1, rfl, rfl, ?_⟩)
      refine .inl ⟨_, _, rfl, rfl, .inr (by omega), ?_⟩
      refine ⟨_, _, rfl, rfl, (show (0 : Int) < 1000000007 by decide), ?_⟩
      have g0 : 0 ≤ (s + 1) * 39373 % 1000000007 := Int.emod_nonneg _ (by omega)
      have g1 : (s + 1) * 39373 % 1000000007 < 1000000007 := Int.emod_lt_of_pos _ (by omega)
      generalize (s + 1) * 39373 % 1000000007 = g at g0 g1
      refine ⟨_, rfl, _, rfl, .inl ⟨_, _, rfl, rfl, .inl (by omega), ?_⟩⟩
      refine ⟨_, _, rfl, rfl, (show (0 : Int) < 998244353 by decide), ?_⟩
      have r0 : 0 ≤ g * g % 998244353 := Int.emod_nonneg _ (by omega)
      have r1 : g * g % 998244353 < 998244353 := Int.emod_lt_of_pos _ (by omega)
      generalize g * g % 998244353 = r at r0 r1
      refine .inl ⟨_, _, rfl, rfl, .inr (by omega), ?_⟩
      refine ⟨_, _, rfl, rfl, (show (0 : Int) < 998244353 by decide), ?_⟩
      have u0 : 0 ≤ r * 30011 % 998244353 := Int.emod_nonneg _ (by omega)
      have u1 : r * 30011 % 998244353 < 998244353 := Int.emod_lt_of_pos _ (by omega)
      generalize r * 30011 % 998244353 = u at u0 u1
      refine ⟨_, rfl, .inl ⟨m, 1000000, rfl, rfl, _, rfl, itb (fun mp => ?_) fun mn => ?_⟩⟩
      · refine ⟨_, rfl, .inl ⟨_, _, rfl, rfl, .inr (by omega), ?_⟩⟩
        refine ⟨_, rfl, .inl ⟨_, _, rfl, rfl, ?_⟩⟩
        exact ⟨_, rfl, _, _, rfl, rfl, hm, fin _ _ a s i rfl (Int.emod_nonneg _ (by omega)) (Int.emod_lt_of_pos _ hm) h2 h3 h4 h5⟩
      · refine ⟨_, rfl, _, _, rfl, rfl, ⟨by decide, by decide +kernel⟩, ?_⟩
        exact ⟨_, rfl, _, _, rfl, rfl, hm, fin _ _ a s i rfl (Int.emod_nonneg _ (by omega)) (Int.emod_lt_of_pos _ hm) h2 h3 h4 h5⟩
  refine bx 0 rfl hb rfl (.inl ⟨rfl, _, rfl, itb (fun ap => ?_) fun an => rest _ _ ⟨none, a, s, i, rfl, (upd_id hb).symm, ha, hs, hs2, hi⟩⟩)
  -- x, the cell that is taken
  have step : ∀ x : Int, 0 ≤ x → (tSeq (tAugS (tVar 0) (tC (.int 2)) (tC (.int 1)) (rGetL K) (ipI fun i j => i + j) rSetL)
      (tSeq (tIfS (tTest (tOp rGeU (tVar 2) (tC (.int 1000000000000000000))))
       (tAsg (tVar 2) (gSub (tVar 0) (tC (.int 0)) rSetL))
       tNext)
      (tAsg (tOp rModU (tOp (rAddU K) (tOp (rAddU K) (tOp rMulU (tOp (rIx K) (tVar 0) (tC (.int 1))) (tC (.int 48271))) (tOp rModU (tVar 2) (tC (.int 2147483647)))) (tOp rMulU (tC (.int 7919)) (tOp (rIx K) (tVar 0) (tC (.int 2))))) (tC (.int 2147483647))) (gSub (tVar 0) (tC (.int 1)) rSetL))))
      { nx := t_l_take2 K { nx := fun _ H' => Q .non H', rt := Q }, rt := Q } [some (.ref B.b), some (.int m), some (.int x), none, none, none] H := fun x hx => by
    refine ⟨_, rfl, B.b, _, 2, .int i, rfl, rfl, SqL.of hb, rfl, i, 1, rfl, rfl, B.b, _, 2, 2, rfl, rfl, hb, rfl, ?_⟩
    have tail : ∀ a' : Int, 0 ≤ a' → tAsg (tOp rModU (tOp (rAddU K) (tOp (rAddU K) (tOp rMulU (tOp (rIx K) (tVar 0) (tC (.int 1))) (tC (.int 48271))) (tOp rModU (tVar 2) (tC (.int 2147483647)))) (tOp rMulU (tC (.int 7919)) (tOp (rIx K) (tVar 0) (tC (.int 2))))) (tC (.int 2147483647))) (gSub (tVar 0) (tC (.int 1)) rSetL)
        { nx := t_l_take2 K { nx := fun _ H' => Q .non H', rt := Q }, rt := Q } [some (.ref B.b), some (.int m), some (.int x), none, none, none] (upd H B.b (.lst [.int a', .int s, .int (i + 1), .ref B.c])) := fun a' ha' => by
      have hb' : (upd H B.b (.lst [.int a', .int s, .int (i + 1), .ref B.c])) B.b = some (.lst [.int a', .int s, .int (i + 1), .ref B.c]) := upd_same
      refine bx 1 rfl hb' rfl (.inl ⟨s, 48271, rfl, rfl, .inr (by omega), ?_⟩)
      refine ⟨_, rfl, x, 2147483647, rfl, rfl, (show (0 : Int) < 2147483647 by decide), .inl ⟨_, _, rfl, rfl, ?_⟩⟩
      refine bx 2 rfl hb' rfl (.inl ⟨7919, i + 1, rfl, rfl, .inl (by omega), .inl ⟨_, _, rfl, rfl, ?_⟩⟩)
      refine ⟨_, _, rfl, rfl, (show (0 : Int) < 2147483647 by decide), ?_⟩
      refine ⟨_, rfl, B.b, _, 1, 1, rfl, rfl, hb', rfl, rest _ _ ⟨_, a', _, i + 1, rfl, upd_upd, ha', Int.emod_nonneg _ (by omega), Int.emod_lt_of_pos _ (by omega), by omega⟩⟩
    refine ⟨_, rfl, x, 1000000000000000000, rfl, rfl, _, rfl, itb (fun xp => ?_) fun xn => ?_⟩
    · refine ⟨_, rfl, _, rfl, B.b, _, 0, 0, rfl, rfl, upd_same, rfl, ?_⟩
      have e : upd (upd H B.b (.lst ([V.int a, .int s, .int i, .ref B.c].set 2 (.int (i + 1))))) B.b (.lst (([V.int a, .int s, .int i, .ref B.c].set 2 (.int (i + 1))).set 0 (.int x))) = upd H B.b (.lst [.int x, .int s, .int (i + 1), .ref B.c]) := upd_upd
      rw [e]
      exact tail x hx
    · exact tail a ha
  refine bx 2 rfl hb rfl (bx 3 rfl hb rfl ⟨.ref B.c, _, rfl, .inl ⟨_, SqL.of hc, rfl⟩, .inl ⟨i, _, rfl, rfl, _, rfl, itb (fun ip => ?_) fun ino => step 0 (by omega)⟩⟩)
  have hl : i < (B.cells.length : Int) := by rw [List.length_map] at ip; exact ip
  obtain ⟨j, rfl⟩ : ∃ j : Nat, i = (j : Int) := ⟨i.toNat, by omega⟩
  have hj : j < B.cells.length := by omega
  have hx : B.cells[j]? = some B.cells[j] := by simp
  have hx2 : (B.cells.map V.int)[j]? = some (.int B.cells[j]) := by rw [List.getElem?_map, hx]; rfl
  refine bx 3 rfl hb rfl (bx 2 rfl hb rfl (.inl ⟨B.c, _, (j : Int), _, rfl, rfl, SqL.of hc, atI_nat hx2, step _ (B.pos _ (List.getElem_mem hj))⟩))
end Wn
end

section
/-! A law's start (the bag is laid), its head by facts, its end. -/
namespace Wn
open PySem PySem.Spec PyProof.Rows L2

/-! ### the law's own contract -/
def spLaw (K : PySem.W.Frag) : Sp := fun vs H Q _ => ∃ (a : Addr) (ns : List Int), vs = [.ref a] ∧ ns.length ≤ 63 ∧ SqL K H a (ns.map V.int) ∧ ∀ H', Q (.bl true) H'
theorem spLaw_len {K : PySem.W.Frag} : ∀ vs H Q E, spLaw K vs H Q E → vs.length = 1 := fun _ _ _ _ ⟨_, _, e, _⟩ => by rw [e]; rfl
def spBag (K : PySem.W.Frag) : Sp := fun vs H Q _ => ∃ (a : Addr) (ns : List Int), vs = [.ref a] ∧ ns.length ≤ 63 ∧ SqL K H a (ns.map V.int) ∧ ∀ (B : Bg) H', BagI B H' → Q (.ref B.b) H'
theorem spBag_len {K : PySem.W.Frag} : ∀ vs H Q E, spBag K vs H Q E → vs.length = 1 := fun _ _ _ _ ⟨_, _, e, _⟩ => by rw [e]; rfl
def t_l_bag (K : PySem.W.Frag) (E : XK) : TS :=
    (tRet (tLst (tCons (tC (.int 0)) (tCons (tC (.int 1234567891)) (tCons (tC (.int 0)) (tCons (tLc (iU K (tSl (rSlU K) (tVar 0) tNoPart (tPart (tC (.int 63))))) (gName 1) tYes (tCB rAbsU (tCons (tVar 1) tNil)) [1]) tNil))))))
theorem cut_ints (ns : List Int) (lo hi : Option Int) : ∃ ms : List Int, cutV (ns.map V.int) lo hi = ms.map V.int ∧ ms.length ≤ ns.length := by
  unfold cutV
  refine ⟨(ns.drop _).take _, by rw [List.map_take, List.map_drop], ?_⟩
  rw [List.length_take, List.length_drop]
  omega
def absI (i : Int) : Int := if i < 0 then -i else i
theorem absI_nn (i : Int) : 0 ≤ absI i := by unfold absI; split <;> omega
theorem pure_l_bag {K : PySem.W.Frag} {vs : List V} {H : Hp} {Q : VK} {E : XK} (h : spBag K vs H Q E) : t_l_bag K E { nx := fun _ H' => Q .non H', rt := Q } (L2.start ["_law_script", "_law_cell"] vs) H := by
  obtain ⟨a, ns, rfl, hn, hs, q⟩ := h
  refine .inl ⟨.ref a, rfl, 63, rfl, .inl ⟨a, _, rfl, hs, fun p hp => ?_⟩⟩
  obtain ⟨ms, em, hm⟩ := cut_ints ns none (some 63)
  rw [em]
  refine ⟨p, rfl, ⟨_, SqL.of upd_same⟩, fun D hD => ?_⟩
  have np : p ≠ D := fun e => by rw [e, upd_same] at hD; cases hD
  refine ⟨fun i m H' => m = ms.length - i ∧ i ≤ ms.length ∧ H' p = some (.lst (ms.map V.int)) ∧ H' D = some (.lst ((ms.take i).map fun z => V.int (absI z))), ⟨_, rfl, Nat.zero_le _, by rw [upd_ne np, upd_same], by rw [upd_same]; rfl⟩, ?_⟩
  rintro i m H' ⟨rfl, hi, h1, h2⟩
  by_cases hlt : i < ms.length
  · have hx : (ms.map V.int)[i]? = some (.int ms[i]) := by simp [hlt]
    refine .inr ⟨⟨_, _, SqL.of h1, hx⟩, fun H2 => H2 p = some (.lst (ms.map V.int)) ∧ H2 D = some (.lst ((ms.take (i + 1)).map fun z => V.int (absI z))), fun H2 ⟨k1, k2⟩ => ⟨_, by omega, rfl, hlt, k1, k2⟩, fun x H2 ⟨eq, hy⟩ => ?_⟩
    subst eq
    have e := hy _ (SqL.of h1)
    rw [hx] at e
    cases e
    refine ⟨rfl, ?_⟩
    show tCB rAbsU (tCons (tVar 1) tNil) _ _ _
    refine ⟨.int ms[i], rfl, ms[i], rfl, _, h2, ?_, ?_, ?_⟩
    · rw [List.length_map, List.length_take, sizeLine_eq]
      omega
    · rw [upd_ne np]
      exact h1
    · rw [upd_same, List.take_succ, List.map_append]
      simp [hlt]
      rfl
  · have ei : i = ms.length := by omega
    refine .inl ⟨⟨_, SqL.of h1, by rw [List.length_map]; omega⟩, ⟨by rw [sizeLine_eq]; show 4 ≤ 16777216; decide, fun b hb => ?_⟩⟩
    have nb : D ≠ b := fun e => by rw [← e, h2] at hb; cases hb
    refine q ⟨b, D, ms.map absI, fun e => nb e.symm, fun x hx => ?_⟩ _ ⟨0, 1234567891, 0, upd_same, by omega, by omega, by omega, by omega, ?_⟩
    · obtain ⟨y, _, rfl⟩ := List.mem_map.mp hx
      exact absI_nn y
    · show upd H' b _ D = _
      rw [upd_ne nb, h2, ei, List.take_length, List.map_map]
      rfl
/-- the law's first statement: the bag is laid -/
theorem bag_start {K : PySem.W.Frag} {N : List Str} {i : Nat} {rest : TS} {vs : List V} {H : Hp} {Q : VK} {E : XK} (hi : i < N.length)
    (h : ∀ (C : Ctx) (B : Bg), C.K = K → C.m = bagM B → C.E = E → ¬ C.nw → C.X = noX → Blk C rest ((List.replicate N.length Sl.no).set i (.d (.adr B.b))) { nx := fun _ => False, rt := fun d => d = .bl true })
    (hs : spLaw K vs H Q E) : tSeq (tAsg (tCl 1 0 (spBag K) gvAll E (tCons (tVar 0) tNil) tNil) (gName i)) rest { nx := fun _ H' => Q .non H', rt := Q } (L2.start N vs) H := by
  obtain ⟨a, ns, rfl, hn, hq, q⟩ := hs
  obtain ⟨x, N', rfl⟩ : ∃ x N', N = x :: N' := by
    cases N with
    | nil => cases hi
    | cons x N' => exact ⟨x, N', rfl⟩
  have e0 : L2.start (x :: N') [.ref a] = some (.ref a) :: List.replicate N'.length none := by simp [L2.start]
  rw [e0]
  refine ⟨.ref a, rfl, rfl, rfl, a, ns, rfl, hn, hq, fun B H' hb => ?_⟩
  have hB : H' B.b ≠ none := by
    obtain ⟨_, _, _, h1, _⟩ := hb
    rw [h1]
    exact fun z => by cases z
  refine h ⟨K, bagM B, fun z => z = B.b, H', noX, E, False⟩ B rfl rfl rfl (fun z => z) rfl [] (fun z => z = B.b) _ H' ?_ _ ⟨fun M' σ' H' d' p e => p.elim, fun v H2 d' p e1 e2 e3 => ?_, fun _ _ _ _ z => z.elim, fun _ _ _ _ z => z.elim, fun _ _ _ _ z => z.elim⟩
  · refine ⟨⟨fun z h => h, fun z h => by rw [show z = B.b from h]; exact hB, hb, TakesX.no⟩, by simp, fun j s hj => ?_, (fun p h => (by cases h)), fun j k s s' l hj hk mj mk _ _ => ?_, fun z h => h, fun z h => by rw [show z = B.b from h]; exact hB, Ext.refl _ _, hb⟩
    · rcases set_cases hj with ⟨rfl, rfl⟩ | ⟨n, hj⟩
      · exact ⟨some (.ref B.b), List.getElem?_set_self (by simpa using hi), .ref B.b, rfl, .adr _⟩
      · have hm := List.mem_of_getElem? hj
        rw [(List.mem_replicate.mp hm).2]
        have hl := lt_of_some hj
        refine ⟨_, by rw [List.getElem?_set_ne (Ne.symm n)]; exact List.getElem?_eq_getElem (by simpa using hl), trivial⟩
    · rcases set_cases hj with ⟨_, rfl⟩ | ⟨n, hj⟩
      · exact mj.elim
      · rw [(List.mem_replicate.mp (List.mem_of_getElem? hj)).2] at mj
        exact mj.elim
  · subst p
    cases e3
    exact q H2

/-! ### the end -/
theorem law_callG {P : Program} {w : World} {K : PySem.W.Frag} {mg mb : Str → Option Value} {CX : CXT} {k : Nat} {fa a : Addr} {fd : FuncData} {x : Str} {sp : Sp} {s₁ : Shared} {vs : List Value} {ns : List Int}
    (KX : K.In s₁.heap) (hns : s₁.heap.Ns mainGlobals mg) (hb : s₁.heap.Ns builtinsNs mb) (hbb : ∀ x : Str, x ≠ "__name__" → mb x = bootBuiltins x) (hlim : s₁.heap.NoLimit) (hg : s₁.gens = #[])
    (ha : s₁.heap.get? a = some { cls := .type "list", data := .seq vs.toArray }) (hi : IntsAre vs ns) (hl : ns.length ≤ sizeLine) (hr : Room k callerA)
    (F : ∀ base : Heap, K.In base → base.Ns mainGlobals mg → FnG P w K mg base CX k fa fd [x] sp) (hbind : ∀ (s : Shared) (u : Value), BindsTo s fd ⟨[u], []⟩ [(x, u)])
    (hsp : ∀ H : Hp, Only H → SqL K H a (ns.map V.int) → sp [.ref a] H (fun v _ => v = .bl true) fun _ _ _ => False)
    (hCX : ∀ H e s', CX [] H s₁ (fun _ _ _ => False) e s' → False) :
    codeAny (model P w) callerA (.call (.ref fa) ⟨[.ref a], []⟩) (fun r s' => r = .ok (.ret (.bool true)) ∧ OldK s₁.heap s'.heap ∧ s'.os = s₁.os ∧ AllBare s'.gens) s₁ := by
  have rv := vals_ints hi
  have lenV := hi.length
  have core : ∀ H : Hp, Only H → SqL K H a (ns.map V.int) → HOk P w H s₁.heap → (∀ b, H b ≠ none → b = a) → (H a ≠ none → K.lookup a = none) →
      codeAny (model P w) callerA (.call (.ref fa) ⟨[.ref a], []⟩) (fun r s' => r = .ok (.ret (.bool true)) ∧ OldK s₁.heap s'.heap ∧ s'.os = s₁.os ∧ AllBare s'.gens) s₁ := by
    intro H hO hS hok hA hK
    have base_of : ∀ {b : Addr} {o : Obj}, s₁.heap.get? b = some o → H b = none → (hidT s₁.heap H).get? b = some o := fun e n => hidT_get e n
    have noA : ∀ {b : Addr} {o : Obj} {es : Array DictEntry} {ep : Nat}, s₁.heap.get? b = some o → o.data = .dict es ep → H b = none := fun {b o es ep} e d => by
      cases q : H b with
      | none => rfl
      | some u =>
        have e' : b = a := hA b (by rw [q]; simp)
        subst e'
        rw [ha] at e; cases e
        have d' : Data.seq vs.toArray _ = Data.dict es ep := d
        cases d'
    have nsK : ∀ {b : Addr} {m : Str → Option Value}, s₁.heap.Ns b m → (hidT s₁.heap H).Ns b m := fun {b m} ⟨o, es, ep, e, d, r⟩ => ⟨o, es, ep, base_of e (noA e d), d, r⟩
    have hKb : K.In (hidT s₁.heap H) := fun b o e => base_of (KX b o e) (by
      cases q : H b with
      | none => rfl
      | some u =>
        have e' : b = a := hA b (by rw [q]; simp)
        subst e'
        rw [hK (by rw [q]; simp)] at e; cases e)
    have hM : Mod K mg (hidT s₁.heap H) := ⟨hKb, nsK hns, ⟨mb, nsK hb, hbb⟩, let ⟨mc, h1, h2⟩ := hlim; ⟨mc, nsK h1, h2⟩⟩
    have e0 : Env0 P w K mg (hidT s₁.heap H) callerA [] s₁ H := ⟨rfl, hM, fun b o e => of_hidT e, Nat.le_of_eq (hidT_size _ _), trivial, fun b hb => absurd (show b ∈ ([] : List Addr) from hb) (by simp), hok, .of_eq hg⟩
    refine codeAny_mono ((F _ hKb (nsK hns)).run callerA [] s₁ H ⟨[.ref a], []⟩ [.ref a] [.ref a] _ _ hr Quiet.caller e0 (hbind s₁ (.ref a)) (.cons rfl .nil) (hsp H hO hS)) fun r s' h => ?_
    cases r with
    | error e => exact (hCX H e s' h).elim
    | ok fl =>
      cases fl with
      | next => exact False.elim h
      | brk => exact False.elim h
      | cont => exact False.elim h
      | ret u =>
        obtain ⟨v, H', os, bare, un, hok', r', q⟩ := h
        have q' : v = .bl true := q
        subst q'
        obtain rfl : u = Value.bool true := r'
        refine ⟨rfl, OldK.of_keep fun b o e => ?_, os, bare⟩
        cases q : H b with
        | none => exact un.keep b o e q (by intro z; exact absurd (show b ∈ ([] : List Addr) from z) (by simp)) (by simp)
        | some u =>
          rcases hO b with z | ⟨ob, xs, z⟩
          · rw [q] at z; cases z
          · have z2 := un.frzs b ob _ z
            obtain ⟨e1, _⟩ := hok b _ z
            obtain ⟨e2, _⟩ := hok' b _ z2
            rw [e] at e1; cases e1
            exact e2
  cases hk : K.lookup a with
  | some o =>
    have e := KX a o hk
    rw [ha] at e
    cases e
    refine core (fun _ => none) (fun _ => .inl rfl) (.inr ⟨_, vs.toArray, _, hk, rfl, rfl, rfl, by rw [List.size_toArray, lenV]; exact hl, by simpa using rv⟩) (fun b u z => by have z' : (none : Option HO) = some u := z; cases z') (fun b z => absurd rfl z) fun z => absurd rfl z
  | none =>
    refine core (fun b => if b = a then some (.frz { cls := .type "list", data := .seq vs.toArray } (.lst (ns.map V.int))) else none) (fun b => ?_) (.inl (.inr ⟨{ cls := .type "list", data := .seq vs.toArray }, if_pos rfl⟩)) (fun b u z => ?_) (fun b z => ?_) fun _ => hk
    · by_cases hb : b = a
      · exact .inr ⟨_, _, if_pos hb⟩
      · exact .inl (if_neg hb)
    · by_cases hb : b = a
      · have z' := (if_pos hb).symm.trans z
        cases z'
        subst hb
        exact ⟨ha, by rw [List.length_map]; exact hl, vs, _, rv, ha⟩
      · have z' := (if_neg hb).symm.trans z
        cases z'
    · by_cases hb : b = a
      · exact hb
      · exact absurd (if_neg hb) z
/-- F: from what the head says, the law's def keeps spLaw -/
theorem walk_G {l : PySem.W.OpenLaw} {k : Nat} {q : Program} {loose : List Str} {XP : (Str → Option Value) → Heap → Prop} {YP : World → Heap → Prop} {d : DefRec} {x : Str}
    (hn : l.most = some 63) (hdf : d.params.defaults = []) (hr : Room k callerA)
    (F : ∀ (w : World) (mg : Str → Option Value) (fa : Addr) (h : Heap), YP w h → h.Ns mainGlobals mg → mg d.name = some (.ref fa) →
      ∃ (K : PySem.W.Frag) (fd : FuncData), K.In h ∧ (∀ (s : Shared) (u : Value), BindsTo s fd ⟨[u], []⟩ [(x, u)]) ∧
        ∀ base : Heap, K.In base → base.Ns mainGlobals mg → FnG l.prog w K mg base CX0 k fa fd [x] (spLaw K)) :
    PySem.W.WalkO q loose XP YP l.row.toRowW d [] (fun f vs => PySem.call f vs) := by
  refine Att.attach_call hn hdf fun w s₀ s₁ mg mb fa o pm cd doc a vs ns G Y ho hd hcd hmg hobj hints hlen hg => ?_
  obtain ⟨K, fd, KX, hb, hF⟩ := F w mg fa _ Y G.T.g hmg
  exact law_callG KX G.T.g G.T.b G.T.builtins G.T.nolimit hg hobj hints (Nat.le_trans hlen (by rw [sizeLine_eq]; decide)) hr hF hb (fun H hO hS => ⟨a, ns, rfl, hlen, hS, fun _ => rfl⟩) fun H e s' h => h

/-! ### the head's facts -/
def eqB (a b : Option Bool) : Bool := match a, b with
  | some x, some y => x == y
  | none, none => true
  | _, _ => false
theorem eqB_ok {a b : Option Bool} (h : eqB a b = true) : a = b := by
  cases a with
  | none => cases b with
    | none => rfl
    | some y => cases h
  | some x => cases b with
    | none => cases h
    | some y => exact congrArg some (beq_iff_eq.mp h)
def isiB (K : PySem.W.Frag) (x : Str) : Bool := (He.Fa.cls x).ok K && (He.eqO (PySem.W.findIn K (.ref (He.ga K x)) "__class__") (some (some (.builtin "object.__class__"))) &&
  (He.eqO (PySem.W.specialIn K (.builtin "object.__class__") "__get__") (some (some (.builtin "getset_descriptor.__get__"))) && (eqB (PySem.W.takesIn K (.builtin "object.__class__")) (some true) && eqB (PySem.W.mroIn K (He.ga K x) (.type "object")) (some true))))
theorem isiB_ok {K : PySem.W.Frag} {x : Str} (h : isiB K x = true) : Isi K (He.ga K x) := by
  obtain ⟨h1, h⟩ := He.ba h
  obtain ⟨h2, h⟩ := He.ba h
  obtain ⟨h3, h⟩ := He.ba h
  obtain ⟨h4, h5⟩ := He.ba h
  exact ⟨He.cls_ok h1, He.eqO_ok h2, He.eqO_ok h3, eqB_ok h4, eqB_ok h5⟩
abbrev AlX : Type := Bool × He.AlD
def obsX (fa : List He.Fa) (fn : List He.DefD) (ex : PySem.W.Frag → Bool) (K : PySem.W.Frag) : AlX := (ex K, He.obsD fa fn K)
def valX (fn : List He.DefD) : AlX := (true, He.valD fn)
structure SaysX (fa : List He.Fa) (fn : List He.DefD) (ex : PySem.W.Frag → Bool) (K : PySem.W.Frag) : Prop where
  d : He.SaysD fa fn K
  x : ex K = true
def obsXG (n : Nat) (fa : List He.Fa) (fn : List He.DefD) (ex : PySem.W.Frag → Bool) (g : Addr → Option Obj) : AlX := obsX fa fn ex (He.frG g (He.asD g n))
def hookX (n : Nat) (fa : List He.Fa) (fn : List He.DefD) (ex : PySem.W.Frag → Bool) : PySem.W.Hook where
  α := AlX
  obs := fun s => obsXG n fa fn ex s.heap.get?
  val := fun _ => valX fn
  says := fun _ h => ∃ K : PySem.W.Frag, K.In h ∧ SaysX fa fn ex K
  of := fun _ _ e => ⟨_, He.frG_in, ⟨congrArg (fun z : AlX => z.2) e, congrArg (fun z : AlX => z.1) e⟩⟩
  keeps := fun _ _ _ ⟨K, hK, c⟩ k => ⟨K, PySem.W.Frag.In.keeps hK k, c⟩
theorem obsXG_eq {n : Nat} {fa : List He.Fa} {fn : List He.DefD} {ex : PySem.W.Frag → Bool} {g : Addr → Option Obj} {s : Shared} (h : ∀ a, g a = s.heap.get? a) : obsXG n fa fn ex g = (hookX n fa fn ex).obs s := by
  have e : g = s.heap.get? := funext h
  rw [e] <;> rfl

/-! ### keyword-only parameters -/
section
variable {K : PySem.W.Frag} {x qual : Str} {params : Arguments} {body : List Stmt} {scope : Scope} {kws : List (Str × V)} {f : Addr} {fd : FuncData} {ps : List Str}
/-- no positional defaults: n by place, keywords ks; ms lack -/
theorem Bd.kw (F : FunD K x qual params body scope [] kws f fd) (n : Nat) (ks : List Str) (ms : List (Str × V)) (g : {α : Type} → List α → List α → List α → List α) (hk : kws ≠ []) (hms : ∀ q ∈ ms, q ∈ kws)
    (hrel : ∀ {vs mz zs : List V} {us mv ws : List Value}, us.length = n → mv.length = ms.length → ws.length = ks.length → Vals vs us → Vals mz mv → Vals zs ws → Vals (g vs mz zs) (g us mv ws))
    (h : ∀ (D : Addr) (doc pm : Value) (an : Option Addr) (cdv ct : Value) (us mv ws : List Value), us.length = n → mv.length = ms.length → ws.length = ks.length →
      KwChain D ((ms.map (·.1)).zip mv) (bindArgs (PySem.W.fnOf x qual params body scope .none (.ref D) doc pm an cdv ct) ⟨us, ks.zip ws⟩) (ps.zip (g us mv ws))) :
    Bd K fd ps n ks (fun vs zs => g vs (ms.map (·.2)) zs) := by
  obtain ⟨oc, od, dV, kV, doc, pm, an, cdv, ct, osl, rfl, lk, hcd, hD, hK⟩ := F.ex
  rcases hD with ⟨_, rfl⟩ | ⟨e, _⟩
  · rcases hK with e | ⟨D, rfl, hq⟩
    · exact absurd e hk
    · obtain ⟨mv, hl, rk, hks⟩ := kwd_vals (ms := ms) fun q hm => hq q (hms q hm)
      refine ⟨fun s vs zs us ws X l1 l2 r1 r2 => ⟨g us mv ws, BindsTo.of_looks fun M => KwChain.looks X hks (h D doc pm an cdv ct us mv ws l1 hl l2), hrel l1 hl l2 r1 rk r2⟩⟩
  · exact absurd rfl e
/-- every keyword-only one is written, none has a default -/
theorem Bd.kwN (F : FunD K x qual params body scope [] kws f fd) (n : Nat) (ks : List Str) (g : {α : Type} → List α → List α → List α)
    (hrel : ∀ {vs zs : List V} {us ws : List Value}, us.length = n → ws.length = ks.length → Vals vs us → Vals zs ws → Vals (g vs zs) (g us ws))
    (h : ∀ (kV doc pm : Value) (an : Option Addr) (cdv ct : Value) (us ws : List Value), us.length = n → ws.length = ks.length →
      bindArgs (PySem.W.fnOf x qual params body scope .none kV doc pm an cdv ct) ⟨us, ks.zip ws⟩ = pure (ps.zip (g us ws))) :
    Bd K fd ps n ks (fun vs zs => g vs zs) := by
  obtain ⟨oc, od, dV, kV, doc, pm, an, cdv, ct, osl, rfl, lk, hcd, hD, hK⟩ := F.ex
  rcases hD with ⟨_, rfl⟩ | ⟨e, _⟩
  · exact ⟨fun s vs zs us ws X l1 l2 r1 r2 => ⟨g us ws, .of_eq (h kV doc pm an cdv ct us ws l1 l2), hrel l1 l2 r1 r2⟩⟩
  · exact absurd rfl e
end
end Wn
end

section
/-! More rules over trees. -/
namespace Wn
open PySem PySem.Spec PyProof.Rows L2
/-! ### rules that lacked -/
theorem lg {m : Int} (h0 : 0 ≤ m) (h : m ≤ 10 ^ 40) : m.natAbs.log2 < 9000 := by
  have h1 : m.natAbs < 2 ^ 200 := by
    have e : ((m.natAbs : Nat) : Int) = m := Int.natAbs_of_nonneg h0
    have h2 : (m.natAbs : Int) < 2 ^ 200 := by rw [e]; exact Int.lt_of_le_of_lt h (by decide)
    exact_mod_cast h2
  by_cases hz : m.natAbs = 0
  · rw [hz]; decide
  · have := (Nat.log2_lt hz).mpr h1
    omega
theorem ev_ty {C : Ctx} {δ : List Sl} {Φ : D → Prop} {n : String} (q : Φ (.ty n)) : EvD C (tC (.ty n)) δ Φ := fun fz M σ H en Q k => k _ _ H q en (Ext.refl _ _) (.ty n)
theorem ev_adr {C : Ctx} {δ : List Sl} {Φ : D → Prop} {a : Addr} (q : Φ (.adr a)) : EvD C (tC (.ref a)) δ Φ := fun fz M σ H en Q k => k _ _ H q en (Ext.refl _ _) (.adr a)
section
variable {C : Ctx} {δ : List Sl} {P : DE} {ta tb tc tn : TE} {Φ : D → Prop} {B : Bg}
theorem ev_chain {r r' : R2} (h : EvD C ta δ fun a => EvD C tb δ fun b => RD C.K r a b fun z => ∃ k, z = .bl k ∧ (k = true → EvD C tc δ fun c => RD C.K r' b c Φ) ∧ (k = false → Φ (.bl false))) : EvD C (tChain r r' ta tb tc) δ Φ := fun fz M σ H en Q k =>
  h fz M σ H en _ fun a x H1 h1 e1 x1 d1 => h1 fz M σ H1 e1 _ fun b y H2 h2 e2 x2 d2 => h2 M x y H2 e2.al (d1.ext (x2.mono e2.b)) d2 _ fun z v H3 ⟨kk, ez, h3, h4⟩ s d3 => by
    subst ez
    cases d3
    refine ⟨kk, rfl, ?_⟩
    have e3 := e2.same s
    cases kk with
    | true => exact h3 rfl fz M σ H3 e3 _ fun c w H4 h5 e4 x4 d4 => h5 M y w H4 e4.al ((d2.ext (.of_same s)).ext (x4.mono e4.b)) d4 Q fun d v H5 p s5 d5 => k d v H5 p (e4.same s5) ((((x1.trans x2).trans (.of_same s)).trans x4).trans (.of_same s5)) d5
    | false => exact k _ _ H3 (h4 rfl) e3 ((x1.trans x2).trans (.of_same s)) (.bl false)
/-- an index within, the item not told -/
theorem rd_pick {K : PySem.W.Frag} {xs : List D} {i : Int} (h0 : 0 ≤ i) (h1 : i < xs.length) (q : ∀ d ∈ xs, Φ d) : RD K (rIx K) (.lst xs) (.int i) Φ := by
  obtain ⟨n, rfl⟩ : ∃ n : Nat, i = (n : Int) := ⟨i.toNat, by omega⟩
  have hn : n < xs.length := by omega
  exact rd_ixL (d := xs[n]) (atI_nat (by simp [hn])) (q _ (List.getElem_mem hn))
theorem rd_at {K : PySem.W.Frag} {xs : List D} {i : Int} {d : D} (h0 : 0 ≤ i) (h : xs[i.toNat]? = some d) (q : Φ d) : RD K (rIx K) (.lst xs) (.int i) Φ := by
  obtain ⟨n, rfl⟩ : ∃ n : Nat, i = (n : Int) := ⟨i.toNat, by omega⟩
  exact rd_ixL (atI_nat h) q
/-- a draw below m -/
theorem ev_tk {K : PySem.W.Frag} (hK : K = C.K) (hm : C.m = bagM B) (hw : ¬ C.nw) (h : EvD C ta δ fun d => d = .adr B.b ∧ EvD C tn δ fun d => ∃ m : Int, d = .int m ∧ (0 < m ∧ m ≤ 10 ^ 40) ∧ ∀ v : Int, 0 ≤ v → v < m → Φ (.int v)) :
    EvD C (tCl 2 0 (liftB K F_l_take) gvAll C.E (tCons ta (tCons tn tNil)) tNil) δ Φ :=
  ev_take hK hm hw (h.mono fun d ⟨e, h2⟩ => ⟨e, h2.mono fun d2 ⟨m, e2, ⟨h3, h4⟩, h5⟩ => ⟨m, e2, h3, lg (by omega) h4, h5⟩⟩)
theorem b_ifT {tt : TT} {t u : TS} (h : EvT C tt δ fun b => b = true ∧ Blk C t δ P) : Blk C (tIfS tt t u) δ P := b_if fun fz M σ H en Q k => h fz M σ H en Q fun b H' ⟨e, p⟩ => k b H' ⟨fun _ => p, fun z => absurd (e.symm.trans z) (by decide)⟩
theorem b_ifF {tt : TT} {t u : TS} (h : EvT C tt δ fun b => b = false ∧ Blk C u δ P) : Blk C (tIfS tt t u) δ P := b_if fun fz M σ H en Q k => h fz M σ H en Q fun b H' ⟨e, p⟩ => k b H' ⟨fun z => absurd (e.symm.trans z) (by decide), fun _ => p⟩
end
theorem bT {p : Prop} [Decidable p] {Φ : Bool → Prop} (hp : p) (q : Φ true) : Φ (decide p) := by rw [decide_eq_true hp]; exact q
theorem bF {p : Prop} [Decidable p] {Φ : Bool → Prop} (hp : ¬ p) (q : Φ false) : Φ (decide p) := by rw [decide_eq_false hp]; exact q

/-! plain data -/
def plainD (d : D) : Prop := ∃ n, D.ok n d = true
theorem plainD.ty {d : D} (h : plainD d) : d.tyn ≠ "" := by
  obtain ⟨n, h⟩ := h
  cases d with
  | adr a => cases n <;> simp [D.ok] at h
  | ty a => cases n <;> simp [D.ok] at h
  | obj a b => cases n <;> simp [D.ok] at h
  | dct a => cases n <;> simp [D.ok] at h
  | pin a b => cases n <;> simp [D.ok] at h
  | _ => simp [D.tyn]
theorem oks_mem : ∀ {n : Nat} {xs : List D} {x : D}, D.oks n xs = true → x ∈ xs → D.ok n x = true
  | _, [], _, _, h => by cases h
  | n, y :: ys, x, h, hx => by
    have h' : D.ok n y = true ∧ D.oks n ys = true := by simpa [D.oks] using h
    rcases List.mem_cons.mp hx with e | hx
    · rw [e]; exact h'.1
    · exact oks_mem h'.2 hx
theorem plainD.lst {xs : List D} (h : plainD (.lst xs)) {x : D} (hx : x ∈ xs) : plainD x := by
  obtain ⟨n, h⟩ := h
  obtain ⟨m, rfl, h'⟩ := ok_shape _ _ h
  exact ⟨m, oks_mem h' hx⟩
theorem plainD.tup {xs : List D} (h : plainD (.tup xs)) {x : D} (hx : x ∈ xs) : plainD x := by
  obtain ⟨n, h⟩ := h
  obtain ⟨m, rfl, h'⟩ := ok_shapeT _ _ h
  exact ⟨m, oks_mem h' hx⟩
theorem plainD.int (i : Int) (h : i.natAbs.log2 < 1920) : plainD (.int i) := ⟨0, by simpa [D.ok] using h⟩
/-! isinstance against a built-in class -/
def D.isI : D → Bool
  | .int _ => true | .bl _ => true | _ => false
def D.isB : D → Bool
  | .bl _ => true | _ => false
def D.isL : D → Bool
  | .lst _ => true | _ => false
def D.isT : D → Bool
  | .tup _ => true | _ => false
def D.isS : D → Bool
  | .str _ => true | _ => false
theorem isi_int {d : D} (h : d.tyn ≠ "") : kitB d.tyn "int" = some d.isI := by
  cases d with
  | non => exact (by decide +kernel : kitB "NoneType" "int" = some false)
  | bl b => exact (by decide +kernel : kitB "bool" "int" = some true)
  | int i => exact (by decide +kernel : kitB "int" "int" = some true)
  | str x => exact (by decide +kernel : kitB "str" "int" = some false)
  | lst x => exact (by decide +kernel : kitB "list" "int" = some false)
  | tup x => exact (by decide +kernel : kitB "tuple" "int" = some false)
  | adr a => exact absurd rfl h
  | ty a => exact absurd rfl h
  | obj a b => exact absurd rfl h
  | dct x => exact (by decide +kernel : kitB "dict" "int" = some false)
  | pin a b => exact absurd rfl h
theorem isi_bool {d : D} (h : d.tyn ≠ "") : kitB d.tyn "bool" = some d.isB := by
  cases d with
  | non => exact (by decide +kernel : kitB "NoneType" "bool" = some false)
  | bl b => exact (by decide +kernel : kitB "bool" "bool" = some true)
  | int i => exact (by decide +kernel : kitB "int" "bool" = some false)
  | str x => exact (by decide +kernel : kitB "str" "bool" = some false)
  | lst x => exact (by decide +kernel : kitB "list" "bool" = some false)
  | tup x => exact (by decide +kernel : kitB "tuple" "bool" = some false)
  | adr a => exact absurd rfl h
  | ty a => exact absurd rfl h
  | obj a b => exact absurd rfl h
  | dct x => exact (by decide +kernel : kitB "dict" "bool" = some false)
  | pin a b => exact absurd rfl h
theorem isi_list {d : D} (h : d.tyn ≠ "") : kitB d.tyn "list" = some d.isL := by
  cases d with
  | non => exact (by decide +kernel : kitB "NoneType" "list" = some false)
  | bl b => exact (by decide +kernel : kitB "bool" "list" = some false)
  | int i => exact (by decide +kernel : kitB "int" "list" = some false)
  | str x => exact (by decide +kernel : kitB "str" "list" = some false)
  | lst x => exact (by decide +kernel : kitB "list" "list" = some true)
  | tup x => exact (by decide +kernel : kitB "tuple" "list" = some false)
  | adr a => exact absurd rfl h
  | ty a => exact absurd rfl h
  | obj a b => exact absurd rfl h
  | dct x => exact (by decide +kernel : kitB "dict" "list" = some false)
  | pin a b => exact absurd rfl h
theorem isi_tuple {d : D} (h : d.tyn ≠ "") : kitB d.tyn "tuple" = some d.isT := by
  cases d with
  | non => exact (by decide +kernel : kitB "NoneType" "tuple" = some false)
  | bl b => exact (by decide +kernel : kitB "bool" "tuple" = some false)
  | int i => exact (by decide +kernel : kitB "int" "tuple" = some false)
  | str x => exact (by decide +kernel : kitB "str" "tuple" = some false)
  | lst x => exact (by decide +kernel : kitB "list" "tuple" = some false)
  | tup x => exact (by decide +kernel : kitB "tuple" "tuple" = some true)
  | adr a => exact absurd rfl h
  | ty a => exact absurd rfl h
  | obj a b => exact absurd rfl h
  | dct x => exact (by decide +kernel : kitB "dict" "tuple" = some false)
  | pin a b => exact absurd rfl h
theorem isi_str {d : D} (h : d.tyn ≠ "") : kitB d.tyn "str" = some d.isS := by
  cases d with
  | non => exact (by decide +kernel : kitB "NoneType" "str" = some false)
  | bl b => exact (by decide +kernel : kitB "bool" "str" = some false)
  | int i => exact (by decide +kernel : kitB "int" "str" = some false)
  | str x => exact (by decide +kernel : kitB "str" "str" = some true)
  | lst x => exact (by decide +kernel : kitB "list" "str" = some false)
  | tup x => exact (by decide +kernel : kitB "tuple" "str" = some false)
  | adr a => exact absurd rfl h
  | ty a => exact absurd rfl h
  | obj a b => exact absurd rfl h
  | dct x => exact (by decide +kernel : kitB "dict" "str" = some false)
  | pin a b => exact absurd rfl h
section
variable {K : PySem.W.Frag} {d : D} {Φ : D → Prop}
theorem rc_isI (h : d.tyn ≠ "") (q : Φ (.bl d.isI)) : RC K (rIsi K) [d, .ty "int"] Φ := rc_isi h (isi_int h) q
theorem rc_isB (h : d.tyn ≠ "") (q : Φ (.bl d.isB)) : RC K (rIsi K) [d, .ty "bool"] Φ := rc_isi h (isi_bool h) q
theorem rc_isL (h : d.tyn ≠ "") (q : Φ (.bl d.isL)) : RC K (rIsi K) [d, .ty "list"] Φ := rc_isi h (isi_list h) q
theorem rc_isT (h : d.tyn ≠ "") (q : Φ (.bl d.isT)) : RC K (rIsi K) [d, .ty "tuple"] Φ := rc_isi h (isi_tuple h) q
theorem rc_isS (h : d.tyn ≠ "") (q : Φ (.bl d.isS)) : RC K (rIsi K) [d, .ty "str"] Φ := rc_isi h (isi_str h) q
end
section
variable {C : Ctx} {δ : List Sl} {P : DE} {tt : TT} {K : PySem.W.Frag} {Φ : D → Prop}
/-- if ..: return False, where the test does not hold -/
theorem b_ifR (h : EvT C tt δ fun b => b = false) (k : P.nx δ) : Blk C (tIfS tt (tRet (tC (.bl false))) tNext) δ P := b_if fun fz M σ H en Q kk => h fz M σ H en Q fun b H' e => kk b H' ⟨fun z => absurd (e.symm.trans z) (by decide), fun _ => b_next k⟩
theorem rd_neI2 {i j : Int} (q : Φ (.bl (decide (i ≠ j)))) : RD K (rNeU K) (.int i) (.int j) Φ := rd_neI (by rw [← decide_not]; exact q)
theorem spl {p A B : Prop} [Decidable p] (h1 : p → A) (h2 : ¬ p → B) : (decide p = true → A) ∧ (decide p = false → B) := ⟨fun z => h1 (of_decide_eq_true z), fun z => h2 (of_decide_eq_false z)⟩
theorem spr {p A B : Prop} [Decidable p] (h1 : ¬ p → A) (h2 : p → B) : (decide p = false → A) ∧ (decide p = true → B) := ⟨fun z => h1 (of_decide_eq_false z), fun z => h2 (of_decide_eq_true z)⟩
theorem nd_t {p : Prop} [Decidable p] (h : (!decide p) = true) : ¬ p := fun z => by rw [decide_eq_true z] at h; cases h
theorem nd_f {p : Prop} [Decidable p] (h : (!decide p) = false) : p := Classical.byContradiction fun z => by rw [decide_eq_false z] at h; cases h
theorem spln {p A B : Prop} [Decidable p] (h1 : ¬ p → A) (h2 : p → B) : ((!decide p) = true → A) ∧ ((!decide p) = false → B) := ⟨fun z => h1 (nd_t z), fun z => h2 (nd_f z)⟩
theorem sprn {p A B : Prop} [Decidable p] (h1 : p → A) (h2 : ¬ p → B) : ((!decide p) = false → A) ∧ ((!decide p) = true → B) := ⟨fun z => h1 (nd_f z), fun z => h2 (nd_t z)⟩
theorem dn_f {p : Prop} [Decidable p] (h : p) : (!decide p) = false := by rw [decide_eq_true h]; rfl
theorem dn_t {p : Prop} [Decidable p] (h : ¬ p) : (!decide p) = true := by rw [decide_eq_false h]; rfl
theorem sptt {A B : Prop} (h : A) : (true = true → A) ∧ (true = false → B) := ⟨fun _ => h, fun z => (by cases z)⟩
theorem spff {A B : Prop} (h : B) : (false = true → A) ∧ (false = false → B) := ⟨fun z => (by cases z), fun _ => h⟩
theorem sprt {A B : Prop} (h : B) : (true = false → A) ∧ (true = true → B) := ⟨fun z => (by cases z), fun _ => h⟩
theorem sprf {A B : Prop} (h : A) : (false = false → A) ∧ (false = true → B) := ⟨fun _ => h, fun z => (by cases z)⟩
theorem spNT {A B : Prop} (h : B) : ((!true) = true → A) ∧ ((!true) = false → B) := ⟨fun z => (by cases z), fun _ => h⟩
theorem spNF {A B : Prop} (h : A) : ((!false) = true → A) ∧ ((!false) = false → B) := ⟨fun _ => h, fun z => (by cases z)⟩
theorem et_yes {C : Ctx} {δ : List Sl} {Φ : Bool → Prop} (h : Φ true) : EvT C tYes δ Φ := fun fz M σ H en Q kk => kk true H h en (Ext.refl _ _)
theorem b_asgLst {C : Ctx} {δ : List Sl} {P : DE} {tr : TA} {i : Nat} (h : EvD C (tLst tr) δ fun d => P.nx (δ.set i (.d d))) : Blk C (tAsg (tLst tr) (gName i)) δ P := b_asg h
end
end Wn
end

section
/-! Loops and comprehensions whose list is told when it is walked. -/
namespace Wn
open PySem PySem.Spec PyProof.Rows L2
section
variable {C : Ctx} {δ : List Sl} {P : DE} {t : TS} {g : TG} {te : TE} {tt : TT}
theorem b_forRX {ta : TA} (h : EvA C ta δ fun ds => ∃ n : Int, ds = [.int n] ∧ Blk C (tFor (iRng1 (tCons (tC (.int n)) tNil)) g t) δ P) : Blk C (tFor (iRng1 ta) g t) δ P := fun fz M σ H en D' l =>
  h fz M σ H en _ fun ds vs H1 ⟨n, e, b⟩ e1 x1 d1 => by
    subst e
    cases d1 with
    | cons a b' =>
      cases a
      cases b'
      exact b fz M σ H1 e1 D' l
theorem b_forRX2 {ta : TA} (h : EvA C ta δ fun ds => ∃ m n : Int, ds = [.int m, .int n] ∧ Blk C (tFor (iRng2 (tCons (tC (.int m)) (tCons (tC (.int n)) tNil))) g t) δ P) : Blk C (tFor (iRng2 ta) g t) δ P := fun fz M σ H en D' l =>
  h fz M σ H en _ fun ds vs H1 ⟨m, n, e, b⟩ e1 x1 d1 => by
    subst e
    cases d1 with
    | cons a b' =>
      cases a
      cases b' with
      | cons a b' =>
        cases a
        cases b'
        exact b fz M σ H1 e1 D' l
theorem en_lcRX {ta : TA} {j : List Nat} {Φ : List D → Prop} (h : EvA C ta δ fun ds => ∃ n : Int, ds = [.int n] ∧ EvN C (tLc (iRng1 (tCons (tC (.int n)) tNil)) g tt te j) δ Φ) : EvN C (tLc (iRng1 ta) g tt te j) δ Φ := fun fz M σ H en Q kk =>
  h fz M σ H en _ fun ds vs H1 ⟨n, e, b⟩ e1 x1 d1 => by
    subst e
    cases d1 with
    | cons a b' =>
      cases a
      cases b'
      exact b fz M σ H1 e1 Q fun xs p vs H' q hp e2 x2 => kk xs p vs H' q (back_none en x1 hp e1) e2 (x1.trans x2)

theorem b_forLX {K : PySem.W.Frag} (hK : K = C.K) {tl : TE} (h : EvD C tl δ fun d => ∃ (ds : List D) (W : Nat → List Sl → Prop), d = .lst ds ∧ W 0 δ ∧ (∀ (k : Nat) x δ', ds[k]? = some x → W k δ' → GOk C g x δ' fun δ2 => Blk C t δ2 { nx := W (k + 1), ct := W (k + 1), bk := P.nx, rt := P.rt, rn := P.rn }) ∧ ∀ δ', W ds.length δ' → P.nx δ') : Blk C (tFor (iList K tl) g t) δ P := fun fz M σ H en D' l =>
  h fz M σ H en _ fun d v H1 ⟨ds, W, e, h0, hs, hd⟩ e1 x1 d1 => by
    subst hK
    subst e
    obtain ⟨a, rfl⟩ : ∃ a, v = .ref a := by cases d1; exact ⟨_, rfl⟩
    have e1' := e1.fz1 d1
    obtain ⟨vs, sq, _⟩ := e1'.sq
    refine ⟨a, rfl, ⟨vs, sq⟩, fun i m σ' H' => m = ds.length - i ∧ i ≤ ds.length ∧ ∃ δ' M', W i δ' ∧ Env C ((.ref a, .lst ds) :: fz) M' δ' σ' H', ⟨_, rfl, Nat.zero_le _, δ, M, h0, e1'⟩, ?_⟩
    rintro i m σ' H' ⟨rfl, hi, δ', M', w, e'⟩
    obtain ⟨us, sq', dl⟩ := e'.sq
    have el := dl.length
    by_cases hlt : i < ds.length
    · refine .inr ⟨⟨us, us[i]'(by omega), sq', by simp⟩, fun σ2 H2 => ∃ δ2 M2, W (i + 1) δ2 ∧ Env C ((.ref a, .lst ds) :: fz) M2 δ2 σ2 H2, fun σ2 H2 ⟨δ2, M2, w2, e2⟩ => ⟨_, by omega, rfl, hlt, δ2, M2, w2, e2⟩, fun x H2 ⟨eq, hx⟩ => ?_⟩
      subst eq
      obtain ⟨d, hd1, hd2⟩ := dtl_at dl (hx us sq')
      exact hs i d δ' hd1 w _ M' σ' _ x e' hd2 _ fun δ2 σ2 q e2 => q _ M' σ2 _ e2 _ ⟨fun M3 σ3 H3 δ3 q3 e3 => ⟨δ3, M3, q3, e3⟩, l.rt, fun M3 σ3 H3 δ3 q3 e3 => l.nx M3 σ3 H3 δ3 q3 e3.fz0, fun M3 σ3 H3 δ3 q3 e3 => ⟨δ3, M3, q3, e3⟩, l.rn⟩
    · refine .inl ⟨⟨us, sq', by omega⟩, l.nx M' σ' H' δ' (hd δ' ?_) e'.fz0⟩
      have : i = ds.length := by omega
      rw [← this]
      exact w

theorem b_forTX {K : PySem.W.Frag} (hK : K = C.K) {tl : TE} (h : EvD C tl δ fun d => ∃ (ds : List D) (W : Nat → List Sl → Prop), d = .tup ds ∧ W 0 δ ∧ (∀ (k : Nat) x δ', ds[k]? = some x → W k δ' → GOk C g x δ' fun δ2 => Blk C t δ2 { nx := W (k + 1), ct := W (k + 1), bk := P.nx, rt := P.rt, rn := P.rn }) ∧ ∀ δ', W ds.length δ' → P.nx δ') : Blk C (tFor (iTup K tl) g t) δ P := fun fz M σ H en D' l =>
  h fz M σ H en _ fun d v H1 ⟨ds, W, e, h0, hs, hd⟩ e1 x1 d1 => by
    subst hK
    subst e
    obtain ⟨a, rfl⟩ : ∃ a, v = .ref a := by cases d1 <;> exact ⟨_, rfl⟩
    have e1' := e1.fz1 d1
    obtain ⟨vs, sq, _⟩ := e1'.st
    refine ⟨a, rfl, ⟨vs, sq⟩, fun i m σ' H' => m = ds.length - i ∧ i ≤ ds.length ∧ ∃ δ' M', W i δ' ∧ Env C ((.ref a, .tup ds) :: fz) M' δ' σ' H', ⟨_, rfl, Nat.zero_le _, δ, M, h0, e1'⟩, ?_⟩
    rintro i m σ' H' ⟨rfl, hi, δ', M', w, e'⟩
    obtain ⟨us, sq', dl⟩ := e'.st
    have el := dl.length
    by_cases hlt : i < ds.length
    · refine .inr ⟨⟨us, us[i]'(by omega), sq', by simp⟩, fun σ2 H2 => ∃ δ2 M2, W (i + 1) δ2 ∧ Env C ((.ref a, .tup ds) :: fz) M2 δ2 σ2 H2, fun σ2 H2 ⟨δ2, M2, w2, e2⟩ => ⟨_, by omega, rfl, hlt, δ2, M2, w2, e2⟩, fun x H2 ⟨eq, hx⟩ => ?_⟩
      subst eq
      obtain ⟨d, hd1, hd2⟩ := dtl_at dl (hx us sq')
      exact hs i d δ' hd1 w _ M' σ' _ x e' hd2 _ fun δ2 σ2 q e2 => q _ M' σ2 _ e2 _ ⟨fun M3 σ3 H3 δ3 q3 e3 => ⟨δ3, M3, q3, e3⟩, l.rt, fun M3 σ3 H3 δ3 q3 e3 => l.nx M3 σ3 H3 δ3 q3 e3.fz0, fun M3 σ3 H3 δ3 q3 e3 => ⟨δ3, M3, q3, e3⟩, l.rn⟩
    · refine .inl ⟨⟨us, sq', by omega⟩, l.nx M' σ' H' δ' (hd δ' ?_) e'.fz0⟩
      have : i = ds.length := by omega
      rw [← this]
      exact w


theorem en_lcLX {K : PySem.W.Frag} (hK : K = C.K) {tl : TE} {j : Nat} {Φ : List D → Prop} (hj : ∀ c fs, δ[j]? ≠ some (.new c fs)) (h : EvD C tl δ fun d => ∃ (ds : List D) (W : Nat → List D → Prop), d = .lst ds ∧ ds.length ≤ 99999 ∧ W 0 [] ∧ (∀ (k : Nat) x acc, ds[k]? = some x → W k acc → EvT C tt (δ.set j (.d x)) fun b => (b = true → EvD C te (δ.set j (.d x)) fun y => W (k + 1) (acc ++ [y])) ∧ (b = false → W (k + 1) acc)) ∧ ∀ acc, W ds.length acc → Φ acc) : EvN C (tLc (iList K tl) (gName j) tt te [j]) δ Φ := fun fz M σ H en Q kk =>
  h fz M σ H en _ fun d v H1 ⟨ds, W, e, hn, h0, hs, hd⟩ e1 x1 d1 => by
    subst hK
    subst e
    obtain ⟨a, rfl⟩ : ∃ a, v = .ref a := by cases d1; exact ⟨_, rfl⟩
    have e1' := e1.fz1 d1
    obtain ⟨vs, sq, _⟩ := e1'.sq
    refine ⟨a, rfl, ⟨vs, sq⟩, fun p hp => ?_⟩
    obtain ⟨L0, no⟩ := LcAt.start e1' hp
    refine ⟨fun i m H' => m = ds.length - i ∧ i ≤ ds.length ∧ ∃ acc, acc.length ≤ i ∧ W i acc ∧ LcAt C ((.ref a, .lst ds) :: fz) M δ σ H1 p acc H', ⟨_, rfl, Nat.zero_le _, [], Nat.le_refl _, h0, L0⟩, ?_⟩
    rintro i m H' ⟨rfl, hi, acc, la, w, L⟩
    obtain ⟨us, sq', dl⟩ := L.en.sq
    have el := dl.length
    by_cases hlt : i < ds.length
    · refine .inr ⟨⟨us, us[i]'(by omega), sq', by simp⟩, fun H2 => ∃ acc', acc'.length ≤ i + 1 ∧ W (i + 1) acc' ∧ LcAt C ((.ref a, .lst ds) :: fz) M δ σ H1 p acc' H2, fun H2 ⟨acc', la', w', L'⟩ => ⟨_, by omega, rfl, hlt, acc', la', w', L'⟩, fun x H2 ⟨eq, hx⟩ => ?_⟩
      subst eq
      obtain ⟨d, hd1, hd2⟩ := dtl_at dl (hx us sq')
      refine lc_turn (W := fun acc' => acc'.length ≤ i + 1 ∧ W (i + 1) acc') L hp no hj hd2 (by omega) ?_ fun acc' H'' ⟨la', w'⟩ L' => ⟨acc', la', w', L'⟩
      intro fz' M' σ' H' en' Q' k'
      refine hs i d acc hd1 w fz' M' σ' H' en' Q' fun b H'' hb e' x' => k' b H'' ⟨fun hbt => ?_, fun hbf => ⟨by omega, hb.2 hbf⟩⟩ e' x'
      exact (hb.1 hbt).mono fun y wy => ⟨by rw [List.length_append]; exact Nat.add_le_add_right la 1, wy⟩
    · refine .inl ⟨⟨us, sq', by omega⟩, ?_⟩
      have ei : i = ds.length := by omega
      obtain ⟨ws, hv, dl2⟩ := L.at_
      exact kk acc p ws H' (hd acc (by rw [← ei]; exact w)) (back_none en x1 hp e1) L.en.fz0 (x1.trans L.ext) hv dl2

theorem en_lcTX {K : PySem.W.Frag} (hK : K = C.K) {tl : TE} {j : Nat} {Φ : List D → Prop} (hj : ∀ c fs, δ[j]? ≠ some (.new c fs)) (h : EvD C tl δ fun d => ∃ (ds : List D) (W : Nat → List D → Prop), d = .tup ds ∧ ds.length ≤ 99999 ∧ W 0 [] ∧ (∀ (k : Nat) x acc, ds[k]? = some x → W k acc → EvT C tt (δ.set j (.d x)) fun b => (b = true → EvD C te (δ.set j (.d x)) fun y => W (k + 1) (acc ++ [y])) ∧ (b = false → W (k + 1) acc)) ∧ ∀ acc, W ds.length acc → Φ acc) : EvN C (tLc (iTup K tl) (gName j) tt te [j]) δ Φ := fun fz M σ H en Q kk =>
  h fz M σ H en _ fun d v H1 ⟨ds, W, e, hn, h0, hs, hd⟩ e1 x1 d1 => by
    subst hK
    subst e
    obtain ⟨a, rfl⟩ : ∃ a, v = .ref a := by cases d1 <;> exact ⟨_, rfl⟩
    have e1' := e1.fz1 d1
    obtain ⟨vs, sq, _⟩ := e1'.st
    refine ⟨a, rfl, ⟨vs, sq⟩, fun p hp => ?_⟩
    obtain ⟨L0, no⟩ := LcAt.start e1' hp
    refine ⟨fun i m H' => m = ds.length - i ∧ i ≤ ds.length ∧ ∃ acc, acc.length ≤ i ∧ W i acc ∧ LcAt C ((.ref a, .tup ds) :: fz) M δ σ H1 p acc H', ⟨_, rfl, Nat.zero_le _, [], Nat.le_refl _, h0, L0⟩, ?_⟩
    rintro i m H' ⟨rfl, hi, acc, la, w, L⟩
    obtain ⟨us, sq', dl⟩ := L.en.st
    have el := dl.length
    by_cases hlt : i < ds.length
    · refine .inr ⟨⟨us, us[i]'(by omega), sq', by simp⟩, fun H2 => ∃ acc', acc'.length ≤ i + 1 ∧ W (i + 1) acc' ∧ LcAt C ((.ref a, .tup ds) :: fz) M δ σ H1 p acc' H2, fun H2 ⟨acc', la', w', L'⟩ => ⟨_, by omega, rfl, hlt, acc', la', w', L'⟩, fun x H2 ⟨eq, hx⟩ => ?_⟩
      subst eq
      obtain ⟨d, hd1, hd2⟩ := dtl_at dl (hx us sq')
      refine lc_turn (W := fun acc' => acc'.length ≤ i + 1 ∧ W (i + 1) acc') L hp no hj hd2 (by omega) ?_ fun acc' H'' ⟨la', w'⟩ L' => ⟨acc', la', w', L'⟩
      intro fz' M' σ' H' en' Q' k'
      refine hs i d acc hd1 w fz' M' σ' H' en' Q' fun b H'' hb e' x' => k' b H'' ⟨fun hbt => ?_, fun hbf => ⟨by omega, hb.2 hbf⟩⟩ e' x'
      exact (hb.1 hbt).mono fun y wy => ⟨by rw [List.length_append]; exact Nat.add_le_add_right la 1, wy⟩
    · refine .inl ⟨⟨us, sq', by omega⟩, ?_⟩
      have ei : i = ds.length := by omega
      obtain ⟨ws, hv, dl2⟩ := L.at_
      exact kk acc p ws H' (hd acc (by rw [← ei]; exact w)) (back_none en x1 hp e1) L.en.fz0 (x1.trans L.ext) hv dl2

theorem noNew {l : List Sl} {j : Nat} {s : Sl} (h : l[j]? = some s) (n : ∀ c fs, s ≠ .new c fs) : ∀ c fs, l[j]? ≠ some (.new c fs) := fun c fs z => n c fs (Option.some.inj (h.symm.trans z))
end
end Wn
end

section
/-! Texts over trees: join, count, split, the signs of a row. -/
namespace Wn
open PySem PySem.Spec PyProof.Rows L2

def rJoinU (K : PySem.W.Frag) : V → List V → Hp → VK → Prop := fun x xs H Q => ∃ a p, ∃ ys : List Str, x = .str a ∧ xs = [.ref p] ∧ (SqL K H p (ys.map V.str) ∨ SqT K H p (ys.map V.str)) ∧ (ys.map (·.length)).sum + ys.length * a.length ≤ 16777216 ∧ Q (.str (Txt.join a ys)) H
theorem mt_joinU {X : Cx} : MtR X "str.join" (rJoinU X.K) := mt_join
def rCountU : V → List V → Hp → VK → Prop := fun x xs H Q => ∃ a b, x = .str a ∧ xs = [.str b] ∧ Q (.int (Txt.count a b)) H
theorem mt_countU {X : Cx} : MtR X "str.count" rCountU := mt_count
section
variable {C : Ctx} {δ : List Sl} {P : DE} {ta tl te : TE} {tr : TA} {t : TS} {g : TG} {tt : TT} {Φ : D → Prop} {K : PySem.W.Frag}
theorem dtl_strs {M : Addr → Prop} {H : Hp} : ∀ {vs : List V} {ys : List Str}, DtL K M H vs (ys.map D.str) → vs = ys.map V.str
  | _, [], .nil => rfl
  | _, y :: ys, .cons a b => by
    cases a
    rw [dtl_strs b]
    rfl
theorem ev_join (hK : K = C.K) (h : EvD C ta δ fun a => ∃ x, a = .str x ∧ EvA C tr δ fun ds => ∃ (ys : List Str), ds = [.lst (ys.map D.str)] ∧ (ys.map (·.length)).sum + ys.length * x.length ≤ 16777216 ∧ Φ (.str (Txt.join x ys))) :
    EvD C (tBM K "str" (rJoinU K) ta tr) δ Φ := fun fz M σ H en Q k =>
  h fz M σ H en _ fun a x H1 ⟨z, e, h1⟩ e1 x1 d1 => by
    subst hK e
    cases d1
    refine ⟨rfl, h1 fz M σ H1 e1 _ fun ds vs H2 ⟨ys, ed, hl, q⟩ e2 x2 d2 => ?_⟩
    subst ed
    obtain ⟨v, rfl, dv⟩ := dt1 d2
    obtain ⟨p, us, rfl, n1, g1, dl⟩ := dt_lst dv
    have := dtl_strs dl
    subst this
    exact ⟨z, p, ys, rfl, rfl, .inl (SqL.of g1), hl, k _ _ H2 q e2 (x1.trans x2) (.str _)⟩
theorem ev_count (h : EvD C ta δ fun a => ∃ x, a = .str x ∧ EvA C tr δ fun ds => ∃ y, ds = [.str y] ∧ Φ (.int (Txt.count x y))) : EvD C (tBM K "str" rCountU ta tr) δ Φ := fun fz M σ H en Q k =>
  h fz M σ H en _ fun a x H1 ⟨z, e, h1⟩ e1 x1 d1 => by
    subst e
    cases d1
    refine ⟨rfl, h1 fz M σ H1 e1 _ fun ds vs H2 ⟨y, ed, q⟩ e2 x2 d2 => ?_⟩
    subst ed
    obtain ⟨v, rfl, dv⟩ := dt1 d2
    cases dv
    exact ⟨z, y, rfl, rfl, k _ _ H2 q e2 (x1.trans x2) (.int _)⟩
/-- [.. for c in a text] -/
theorem en_lcS {j : Nat} {Φ : List D → Prop} {z : Str} (W : Nat → List D → Prop) (h : EvD C tl δ fun d => d = .str z) (hn : z.cps.size ≤ 99999) (hj : ∀ c fs, δ[j]? ≠ some (.new c fs)) (h0 : W 0 [])
    (hs : ∀ (k : Nat) c acc, z.cps.toList[k]? = some c → W k acc → EvT C tt (δ.set j (.d (.str ⟨#[c]⟩))) fun b => (b = true → EvD C te (δ.set j (.d (.str ⟨#[c]⟩))) fun y => W (k + 1) (acc ++ [y])) ∧ (b = false → W (k + 1) acc))
    (hd : ∀ acc, W z.cps.toList.length acc → Φ acc) : EvN C (tLc (iStr tl) (gName j) tt te [j]) δ Φ := fun fz M σ H en Q kk =>
  h fz M σ H en _ fun d v H1 e e1 x1 d1 => by
    subst e
    cases d1
    refine ⟨z, rfl, fun p hp => ?_⟩
    obtain ⟨L0, no⟩ := LcAt.start e1 hp
    refine ⟨fun i m H' => m = z.cps.size - i ∧ i ≤ z.cps.size ∧ ∃ acc, acc.length ≤ i ∧ W i acc ∧ LcAt C fz M δ σ H1 p acc H', ⟨_, rfl, Nat.zero_le _, [], Nat.le_refl _, h0, L0⟩, ?_⟩
    rintro i m H' ⟨rfl, hi, acc, la, w, L⟩
    by_cases hlt : i < z.cps.size
    · refine .inr ⟨hlt, fun H2 => ∃ acc', acc'.length ≤ i + 1 ∧ W (i + 1) acc' ∧ LcAt C fz M δ σ H1 p acc' H2, fun H2 ⟨acc', la', w', L'⟩ => ⟨_, by omega, rfl, hlt, acc', la', w', L'⟩, fun x H2 ⟨eq, c, hc, hx⟩ => ?_⟩
      subst eq
      subst hx
      have hc' : z.cps.toList[i]? = some c := by simpa using hc
      refine lc_turn (W := fun acc' => acc'.length ≤ i + 1 ∧ W (i + 1) acc') L hp no hj (.str _) (by omega) ?_ fun acc' H'' ⟨la', w'⟩ L' => ⟨acc', la', w', L'⟩
      intro fz' M' σ' H' en' Q' k'
      refine hs i c acc hc' w fz' M' σ' H' en' Q' fun b H'' hb e' x' => k' b H'' ⟨fun hbt => ?_, fun hbf => ⟨by omega, hb.2 hbf⟩⟩ e' x'
      exact (hb.1 hbt).mono fun y wy => ⟨by rw [List.length_append]; exact Nat.add_le_add_right la 1, wy⟩
    · refine .inl ⟨Nat.le_of_not_lt hlt, ?_⟩
      have ei : i = z.cps.toList.length := by simp; omega
      obtain ⟨ws, hv, dl2⟩ := L.at_
      exact kk acc p ws H' (hd acc (by rw [← ei]; exact w)) (back_none en x1 hp e1) L.en (x1.trans L.ext) hv dl2
end
/-! ### the signs of a row -/
def sg (b : Bool) : Nat := if b then 97 else 46
def sgD (b : Bool) : D := .str ⟨#[sg b]⟩
def rowS (l : List Bool) : Str := ⟨(l.map sg).toArray⟩
def rowD (l : List Bool) : D := .str (rowS l)
theorem row_len (l : List Bool) : (rowS l).length = l.length := by simp [rowS, Str.length]
theorem row_cps (l : List Bool) : (rowS l).cps.toList = l.map sg := by simp [rowS]
theorem row_join (l : List Bool) : Txt.join "" (l.map fun b => (⟨#[sg b]⟩ : Str)) = rowS l := by
  have e : (l.map fun b => (⟨#[sg b]⟩ : Str)) = (l.map fun b => [sg b]).map SX.S := by rw [List.map_map]; rfl
  have e0 : ("" : Str) = SX.S [] := by decide +kernel
  rw [e, e0, SX.join_S]
  have key : ∀ l : List Bool, TL.joinL [] (l.map fun b => [sg b]) = l.map sg := by
    intro l
    induction l with
    | nil => rfl
    | cons b r ih =>
      cases r with
      | nil => rfl
      | cons c s =>
        show [sg b] ++ ([] ++ TL.joinL [] ((c :: s).map fun b => [sg b])) = _
        rw [ih]
        rfl
  rw [key]
  rfl
section
variable {K : PySem.W.Frag} {Φ : D → Prop}
theorem sg_dot (b : Bool) : decide ((⟨#[sg b]⟩ : Str) = ".") = !b := by cases b <;> decide +kernel
theorem sg_a (b : Bool) : decide ((⟨#[sg b]⟩ : Str) = "a") = b := by cases b <;> decide +kernel
theorem rd_dot {b : Bool} (q : Φ (.bl (!b))) : RD K (rEqU K) (sgD b) (.str ".") Φ := rd_eqS (by rw [sg_dot]; exact q)
theorem rd_asg {b : Bool} (q : Φ (.bl b)) : RD K (rEqU K) (sgD b) (.str "a") Φ := rd_eqS (by rw [sg_a]; exact q)
theorem rc_lenRow {l : List Bool} (hl : l.length ≤ 100000) (q : Φ (.int l.length)) : RC K (rLenU K) [rowD l] Φ := rc_lenS (by rw [row_len, sizeLine_eq]; omega) (by rw [row_len]; exact q)
end
section
variable {C : Ctx} {δ : List Sl} {P : DE} {tl : TE} {t : TS} {g : TG} {K : PySem.W.Frag}
/-- for sign in row -/
theorem b_forRow {l : List Bool} (W : Nat → List Sl → Prop) (h : EvD C tl δ fun d => d = rowD l) (h0 : W 0 δ)
    (hs : ∀ (k : Nat) b δ', l[k]? = some b → W k δ' → GOk C g (sgD b) δ' fun δ2 => Blk C t δ2 { nx := W (k + 1), ct := W (k + 1), bk := P.nx, rt := P.rt, rn := P.rn })
    (hd : ∀ δ', W l.length δ' → P.nx δ') : Blk C (tFor (iU K tl) g t) δ P := by
  refine b_uS (b_forS (z := rowS l) W h h0 (fun k c δ' hc w => ?_) fun δ' w => hd δ' ?_)
  · rw [row_cps, List.getElem?_map] at hc
    cases e : l[k]? with
    | none => rw [e] at hc; cases hc
    | some b =>
      rw [e] at hc
      cases hc
      exact hs k b δ' e w
  · rw [row_cps, List.length_map] at w
    exact w
end
end Wn
end

section
/-! Defs that hand back a new list; a list under way, looked at. -/
namespace Wn
open PySem PySem.Spec PyProof.Rows L2

abbrev FNew := List D → (List D → Prop) → Ex → Prop
/-- a contract over trees: what comes back is a new list -/
def liftN (K : PySem.W.Frag) (m : Mode) (F : FNew) : Sp := fun vs H Q E => ∃ (M : Addr → Prop) (ds : List D) (X : Ex) (Φ : List D → Prop), (∀ a, m.B a → M a) ∧ (∀ a, M a → H a ≠ none) ∧ DtL K M H vs ds ∧ m.I H ∧ TakesX K m M H X E ∧
  F ds Φ X ∧ ∀ xs p us H', Φ xs → H p = none → Ext m.B H H' → m.I H' → H' p = some (.lst us) → DtL K (fun a => M a ∨ a = p) H' us xs → Q (.ref p) H'
theorem liftN_len {K : PySem.W.Frag} {m : Mode} {F : FNew} {n : Nat} (h : ∀ ds Φ X, F ds Φ X → ds.length = n) : ∀ vs H Q E, liftN K m F vs H Q E → vs.length = n :=
  fun vs H Q E ⟨M, ds, X, _, _, _, d, _, _, f, _⟩ => d.length.trans (h _ _ _ f)
theorem liftN_of {K : PySem.W.Frag} {m : Mode} {F : FNew} {N : List Str} {t : XK → TS} {vs : List V} {H : Hp} {Q : VK} {E : XK}
    (h : ∀ (C : Ctx) (ds : List D) (Φ : List D → Prop), C.K = K → C.m = m → C.E = E → ¬ C.nw → F ds Φ C.X → Blk C (t E) (slots N.length ds) { nx := fun _ => False, rt := fun _ => False, rn := Φ })
    (hs : liftN K m F vs H Q E) : t E { nx := fun _ H' => Q .non H', rt := Q } (start N vs) H := by
  obtain ⟨M, ds, X, Φ, b, al, d, i, tx, f, k⟩ := hs
  have en := start_env (N := N) b al d i tx
  exact h ⟨K, m, M, H, X, E, False⟩ ds Φ rfl rfl rfl (fun z => z) f [] M _ H en _ ⟨fun M' σ' H' δ' p e => p.elim, fun v H' d' p e1 e2 e3 => p.elim, fun _ _ _ _ z => z.elim, fun _ _ _ _ z => z.elim, fun p us H' xs q e1 e2 e3 e4 e5 => k xs p us H' q e3 e1 e2 e4 e5⟩
section
variable {C : Ctx} {δ : List Sl} {P : DE} {te ta tb : TE} {tr tk : TA} {tt : TT} {i : Nat} {fz : List (V × D)} {M : Addr → Prop} {σ : L2.St} {H : Hp}
theorem b_retF {xs : List D} (hi : δ[i]? = some (.own xs)) (h : P.rn xs) : Blk C (tRet (tVar i)) δ P := fun fz M σ H en D' l => by
  obtain ⟨v, h1, p, us, rfl, mp, f0, hp, d⟩ := en.sl i _ hi
  refine ⟨_, h1, l.rn p us H xs h en.ext en.inv f0 hp (d.to (fun a z => ?_) (Ext.refl _ _))⟩
  rcases z with z | z
  · exact en.m0 a z
  · rw [z]; exact mp
theorem b_retE (h : EvN C te δ P.rn) : Blk C (tRet te) δ P := fun fz M σ H en D' l => h fz M σ H en _ fun xs p us H1 q hp e1 x1 lp d1 =>
  l.rn p us H1 xs q (en.ext.trans x1) e1.inv (en.fresh hp) lp (d1.to (fun a z => z.elim (fun z => .inl (en.m0 a z)) .inr) (Ext.refl _ _))
theorem EvN.mono {Φ Ψ : List D → Prop} (h : EvN C te δ Φ) (i : ∀ d, Φ d → Ψ d) : EvN C te δ Ψ := fun fz M σ H en Q k => h fz M σ H en Q fun xs p vs H' q => k xs p vs H' (i xs q)
theorem EvT.mono {Φ Ψ : Bool → Prop} (h : EvT C tt δ Φ) (i : ∀ d, Φ d → Ψ d) : EvT C tt δ Ψ := fun fz M σ H en Q k => h fz M σ H en Q fun b H' q => k b H' (i b q)
theorem newL {m : Mode} (hm : Sub m C) (en : Env C fz M δ σ H) {p : Addr} {us : List V} {H' : Hp} {xs : List D} (hp : H p = none) (e : Ext m.B H H') (i : m.I H') (lp : H' p = some (.lst us)) : Env C fz (fun a => M a ∨ a = p) δ σ H' := by
  have e' := hm.to en e i
  refine ⟨e'.ok, e'.ln, fun j t h => ?_, fun q h => ?_, e'.inj, fun a h => .inl (e'.m0 a h), fun a h => ?_, e'.ext, e'.inv⟩
  · have x := hm.ext e
    obtain ⟨v, h1, h2⟩ := en.sl j t h
    have nb : ∀ l, C.H0 l = none → ¬ C.m.B l := fun l z => en.nb z
    refine ⟨v, h1, ?_⟩
    cases t with
    | no => trivial
    | d y =>
      obtain ⟨u, q1, q2⟩ := h2
      exact ⟨u, q1, (q2.plus hp).ext (x.mono fun a z => .inl (en.b a z))⟩
    | own ys =>
      obtain ⟨l, vs, q1, q2, q3, q4, q5⟩ := h2
      exact ⟨l, vs, q1, .inl q2, q3, x l _ (nb l q3) q4, (q5.plus hp).ext (x.mono fun a z => .inl (en.b a z))⟩
    | new c fs =>
      obtain ⟨v', h1', h2'⟩ := e'.sl j _ h
      rw [h1] at h1'
      cases h1'
      obtain ⟨hw, l, dx, fv, q1, q2, q3, q4, q5⟩ := h2'
      obtain ⟨_, l0, dx0, fv0, r1, r2, r3, r4, r5⟩ := h2
      rw [q1] at r1
      cases r1
      -- nothing may change here but by a pure callee
      rcases hm with ⟨_, n⟩ | rfl
      · exact absurd hw n
      · have := e l _ (fun z => z) r4
        rw [q4] at this
        cases this
        exact ⟨hw, l, dx, fv, q1, .inl q2, q3, q4, (r5.plus hp).ext (x.mono fun a z => .inl (en.b a z))⟩
  · exact ((en.fzs q h).plus hp).ext ((hm.ext e).mono fun a z => .inl (en.b a z))
  · rcases h with h | h
    · exact e'.al a h
    · rw [h, lp]; exact fun z => by cases z
/-- trees in, a new list asked -/
theorem Sub.callN {m : Mode} (hm : Sub m C) {F : FNew} {Φ : List D → Prop} (en : Env C fz M δ σ H) {vs : List V} {ds : List D} (d : DtL C.K M H vs ds) {Q : VK} (f : F ds Φ C.X)
    (k : ∀ xs p us H', Φ xs → H p = none → Env C fz (fun a => M a ∨ a = p) δ σ H' → Ext C.m.B H H' → H' p = some (.lst us) → DtL C.K (fun a => M a ∨ a = p) H' us xs → Q (.ref p) H') : liftN C.K m F vs H Q C.E :=
  ⟨M, ds, C.X, Φ, hm.b en, en.al, d, hm.i en, hm.takes en, f, fun xs p us H' q hp e i lp dl => k xs p us H' q hp (newL (xs := xs) hm en hp e i lp) (hm.ext e) lp dl⟩
theorem en_cl {n j : Nat} {m : Mode} {F : FNew} {Φ : List D → Prop} {gV : List V → List V → List V} {gD : List D → List D → List D} (hm : Sub m C) (hg : ∀ M H vs zs ds es, DtL C.K M H vs ds → DtL C.K M H zs es → DtL C.K M H (gV vs zs) (gD ds es))
    (h : EvA C tr δ fun ds => EvA C tk δ fun es => ds.length = n ∧ es.length = j ∧ F (gD ds es) Φ C.X) : EvN C (tCl n j (liftN C.K m F) gV C.E tr tk) δ Φ := fun fz M σ H en Q k =>
  h fz M σ H en _ fun ds vs H1 h1 e1 x1 d1 => h1 fz M σ H1 e1 _ fun es zs H2 ⟨l1, l2, h2⟩ e2 x2 d2 =>
    ⟨(d1.length).trans l1, (d2.length).trans l2, hm.callN e2 (hg _ _ _ _ _ _ (d1.ext (x2.mono e2.b)) d2) h2 fun xs p us H3 q hp e3 x3 => k xs p us H3 q (back_none en (x1.trans x2) hp e2) e3 ((x1.trans x2).trans x3)⟩
theorem en_mt {c : Addr} {nm : Str} {n : Nat} {m : Mode} {F : FNew} {Φ : List D → Prop} {gV : List V → List V → List V} {gD : List D → List D → List D} (hm : Sub m C) (hg : ∀ M H vs zs ds es, DtL C.K M H vs ds → DtL C.K M H zs es → DtL C.K M H (gV vs zs) (gD ds es))
    (h : EvD C ta δ fun o => ∃ fs, o = .obj c fs ∧ (∀ p ∈ fs, p.1 ≠ nm) ∧ EvA C tr δ fun ds => ds.length = n ∧ F (gD (o :: ds) []) Φ C.X) : EvN C (tMt c nm n (liftN C.K m F) gV C.E ta tr) δ Φ := fun fz M σ H en Q k =>
  h fz M σ H en _ fun o x H1 ho e1 x1 d1 => by
    obtain ⟨fs, rfl, hl, h1⟩ := ho
    cases d1 with
    | @obj a _ dx fv _ hn ha hf =>
      refine ⟨a, dx, fv, rfl, ha, ?_, h1 fz M σ H1 e1 _ fun ds vs H2 ⟨l1, h2⟩ e2 x2 d2 => ⟨(d2.length).trans l1, ?_⟩⟩
      · have key : ∀ {fv : List (Str × V)} {fs : List (Str × D)}, DtF C.K M H1 fv fs → (∀ p ∈ fs, p.1 ≠ nm) → fv.lookup nm = none := by
          intro fv
          induction fv with
          | nil => intro fs _ _; rfl
          | cons q r ih =>
            intro fs hf hl
            cases hf with
            | cons h t =>
              rw [List.lookup_cons, beq_eq_false_iff_ne.mpr (fun z => hl _ (List.mem_cons_self ..) z.symm)]
              exact ih t fun p hp => hl p (List.mem_cons_of_mem _ hp)
        exact key hf hl
      · exact hm.callN e2 (hg _ _ _ _ _ _ (.cons (Dt.ext (.obj hn ha hf) (x2.mono e2.b)) d2) .nil) h2 fun xs p us H3 q hp e3 x3 => k xs p us H3 q (back_none en (x1.trans x2) hp e2) e3 ((x1.trans x2).trans x3)
theorem ev_clL {n j : Nat} {m : Mode} {F : FSpec} {Φ : D → Prop} {gV : List V → List V → List V} {gD : List D → List D → List D} (hm : Sub m C) (hg : ∀ M H vs zs ds es, ds.length = n → es.length = j → DtL C.K M H vs ds → DtL C.K M H zs es → DtL C.K M H (gV vs zs) (gD ds es))
    (h : EvA C tr δ fun ds => EvA C tk δ fun es => ds.length = n ∧ es.length = j ∧ F (gD ds es) Φ C.X) : EvD C (tCl n j (lift C.K m F) gV C.E tr tk) δ Φ := fun fz M σ H en Q k =>
  h fz M σ H en _ fun ds vs H1 h1 e1 x1 d1 => h1 fz M σ H1 e1 _ fun es zs H2 ⟨l1, l2, h2⟩ e2 x2 d2 =>
    ⟨(d1.length).trans l1, (d2.length).trans l2, hm.call e2 (hg _ _ _ _ _ _ l1 l2 (d1.ext (x2.mono e2.b)) d2) h2 fun d v H3 p e3 x3 => k d v H3 p e3 ((x1.trans x2).trans x3)⟩
theorem en_clL {n j : Nat} {m : Mode} {F : FNew} {Φ : List D → Prop} {gV : List V → List V → List V} {gD : List D → List D → List D} (hm : Sub m C) (hg : ∀ M H vs zs ds es, ds.length = n → es.length = j → DtL C.K M H vs ds → DtL C.K M H zs es → DtL C.K M H (gV vs zs) (gD ds es))
    (h : EvA C tr δ fun ds => EvA C tk δ fun es => ds.length = n ∧ es.length = j ∧ F (gD ds es) Φ C.X) : EvN C (tCl n j (liftN C.K m F) gV C.E tr tk) δ Φ := fun fz M σ H en Q k =>
  h fz M σ H en _ fun ds vs H1 h1 e1 x1 d1 => h1 fz M σ H1 e1 _ fun es zs H2 ⟨l1, l2, h2⟩ e2 x2 d2 =>
    ⟨(d1.length).trans l1, (d2.length).trans l2, hm.callN e2 (hg _ _ _ _ _ _ l1 l2 (d1.ext (x2.mono e2.b)) d2) h2 fun xs p us H3 q hp e3 x3 => k xs p us H3 q (back_none en (x1.trans x2) hp e2) e3 ((x1.trans x2).trans x3)⟩
/-! a list under way, looked at as a tree -/
theorem Env.view {xs : List D} (hi : δ[i]? = some (.own xs)) (en : Env C fz M δ σ H) : ∃ N : Addr → Prop, (∀ a, N a → M a) ∧ Env C fz N (δ.set i (.d (.lst xs))) σ H := by
  obtain ⟨v, h1, p, vs, rfl, m1, f1, hp, d1⟩ := en.sl i _ hi
  have hno : ∀ a, C.M0 a → a ≠ p := fun a z e => en.ok.al a z (by rw [e]; exact f1)
  have e1 : Env C fz (fun a => M a ∧ a ≠ p) (δ.set i .no) (σ.set i (some (.ref p))) H := (en.putNo (i := i) (v := some (.ref p))).less (fun a z => z.1) (fun a z => ⟨en.m0 a z, hno a z⟩) fun j s l hj hm hr => by
    rcases set_cases hj with ⟨rfl, rfl⟩ | ⟨n, hj'⟩
    · exact hm.elim
    · rw [List.getElem?_set_ne (Ne.symm n)] at hr
      refine ⟨?_, fun e => ?_⟩
      · obtain ⟨l', q1, q2⟩ := en.mref hj' hm
        rw [hr] at q1
        cases q1
        exact q2
      · subst e
        exact n (en.inj j i s _ l hj' hi hm trivial hr h1)
  have hσ : σ.set i (some (.ref p)) = σ := by
    apply List.ext_getElem?
    intro j
    by_cases e : j = i
    · subst e
      rw [List.getElem?_set_self (lt_of_some h1), h1]
    · rw [List.getElem?_set_ne (Ne.symm e)]
  have e2 := e1.putD (i := i) (u := .ref p) (x := .lst xs) (.lst (fun z => z.2 rfl) hp (d1.to (fun a z => z.1) (Ext.refl _ _)))
  rw [hσ, hσ, List.set_set] at e2
  exact ⟨_, fun a z => z.1, e2⟩
theorem D.flat_dt {K : PySem.W.Frag} {N M : Addr → Prop} {H : Hp} {v : V} {d : D} (f : d.flat = true) (h : Dt K N H v d) : Dt K M H v d := by
  cases h with
  | non => exact .non
  | bl b => exact .bl b
  | int b => exact .int b
  | str b => exact .str b
  | _ => simp [D.flat] at f
theorem et_view {xs : List D} {Φ : Bool → Prop} (i : Nat) (hi : δ[i]? = some (.own xs)) (hn : ¬ C.nw) (h : EvT C tt (δ.set i (.d (.lst xs))) Φ) : EvT C tt δ Φ := fun fz M σ H en Q k => by
  obtain ⟨N, hN, e2⟩ := en.view hi
  exact h fz N σ H e2 Q fun b H' q e3 x3 => k b H' q (en.go x3 e3.inv fun z => absurd z hn) x3
theorem ev_view {xs : List D} {Φ : D → Prop} (i : Nat) (hi : δ[i]? = some (.own xs)) (hn : ¬ C.nw) (h : EvD C te (δ.set i (.d (.lst xs))) fun d => d.flat = true ∧ Φ d) : EvD C te δ Φ := fun fz M σ H en Q k => by
  obtain ⟨N, hN, e2⟩ := en.view hi
  exact h fz N σ H e2 Q fun d v H' ⟨f, q⟩ e3 x3 dt => k d v H' q (en.go x3 e3.inv fun z => absurd z hn) x3 (D.flat_dt f dt)
/-- xs[j] of a list under way, a flat item -/
theorem ev_ixO {xs : List D} {K : PySem.W.Frag} {Φ : D → Prop} (hK : K = C.K) (hi : δ[i]? = some (.own xs)) (h : EvD C tb δ fun b => RD C.K (rIx C.K) (.lst xs) b fun d => d.flat = true ∧ Φ d) : EvD C (tOp (rIx K) (tVar i) tb) δ Φ := fun fz M σ H en Q k => by
  subst hK
  obtain ⟨v, h1, p, vs, rfl, m1, f1, hp, d1⟩ := en.sl i _ hi
  refine ⟨.ref p, h1, h fz M σ H en _ fun b y H2 h2 e2 x2 d2 => ?_⟩
  obtain ⟨N, hN, e3⟩ := e2.view hi
  obtain ⟨v', h1', u, e, du⟩ := e3.sl i (.d (.lst xs)) (List.getElem?_set_self (lt_of_some hi))
  rw [h1] at h1'
  cases h1'
  cases e
  exact h2 N (.ref p) y H2 e3.al du (d2.weak hN) Q fun d v H3 ⟨f, q⟩ s d3 => k d v H3 q (e2.same s) (x2.trans (.of_same s)) (D.flat_dt f d3)
theorem ev_lenO {xs : List D} {K : PySem.W.Frag} {Φ : D → Prop} (hK : K = C.K) (hi : δ[i]? = some (.own xs)) (q : Φ (.int xs.length)) : EvD C (tCB (rLenU K) (tCons (tVar i) tNil)) δ Φ := fun fz M σ H en Q k => by
  subst hK
  obtain ⟨v, h1, p, vs, rfl, m1, f1, hp, d1⟩ := en.sl i _ hi
  obtain ⟨N, hN, e3⟩ := en.view hi
  obtain ⟨v', h1', u, e, du⟩ := e3.sl i (.d (.lst xs)) (List.getElem?_set_self (lt_of_some hi))
  rw [h1] at h1'
  cases h1'
  cases e
  exact ⟨.ref p, h1, rc_lenL (Φ := fun d => d.flat = true ∧ Φ d) ⟨rfl, q⟩ N [.ref p] H e3.al (.cons du .nil) Q fun d v H3 ⟨f, q⟩ s d3 => k d v H3 q (en.same s) (.of_same s) (D.flat_dt f d3)⟩
/-- .. handed on by a statement: it is done -/
theorem b_view {xs : List D} {t : TS} (i : Nat) (hi : δ[i]? = some (.own xs)) (h : Blk C t (δ.set i (.d (.lst xs))) P) : Blk C t δ P := b_frz i hi h
/-- xs.reverse() -/
theorem dtl_rev {K : PySem.W.Frag} {M : Addr → Prop} {H : Hp} : ∀ {vs : List V} {ds : List D}, DtL K M H vs ds → DtL K M H vs.reverse ds.reverse
  | _, _, .nil => .nil
  | _, _, .cons a t => by
    rw [List.reverse_cons, List.reverse_cons]
    exact (dtl_rev t).append (.cons a .nil)
theorem b_rev {xs : List D} {K : PySem.W.Frag} (hK : K = C.K) (hi : δ[i]? = some (.own xs)) (h : P.nx (δ.set i (.own xs.reverse))) : Blk C (tDrop (tBM0 K "list" rReverse (tVar i))) δ P := fun fz M σ H en D' l => by
  subst hK
  obtain ⟨v, h1, p, vs, rfl, m1, f1, hp, d1⟩ := en.sl i _ hi
  exact ⟨.ref p, h1, .inl ⟨rfl, vs, SqL.of hp⟩, p, vs, rfl, rfl, hp, l.nx M σ _ _ h (en.upd hi h1 (dtl_rev d1))⟩
theorem b_clr {xs : List D} {K : PySem.W.Frag} (hK : K = C.K) (hi : δ[i]? = some (.own xs)) (h : P.nx (δ.set i (.own []))) : Blk C (tDrop (tBM0 K "list" rClear (tVar i))) δ P := fun fz M σ H en D' l => by
  subst hK
  obtain ⟨v, h1, p, vs, rfl, m1, f1, hp, d1⟩ := en.sl i _ hi
  exact ⟨.ref p, h1, .inl ⟨rfl, vs, SqL.of hp⟩, p, vs, rfl, rfl, hp, l.nx M σ _ _ h (en.upd hi h1 .nil)⟩
theorem b_ext {xs : List D} {K : PySem.W.Frag} (hK : K = C.K) (hi : δ[i]? = some (.own xs)) (h : EvD C te δ fun d => ∃ ys, d = .lst ys ∧ xs.length + ys.length ≤ 100000 ∧ P.nx (δ.set i (.own (xs ++ ys)))) : Blk C (tDrop (tBM K "list" rExtend (tVar i) (tCons te tNil))) δ P := fun fz M σ H en D' l => by
  subst hK
  obtain ⟨v, h1, p, vs, rfl, m1, f1, hp, d1⟩ := en.sl i _ hi
  refine ⟨.ref p, h1, .inl ⟨rfl, vs, SqL.of hp⟩, h fz M σ H en _ fun d w H1 ⟨ys, ed, hl, q⟩ e1 x1 dw => ?_⟩
  subst ed
  obtain ⟨v', h1', p', vs', e', m1', f1', hp', d1'⟩ := e1.sl i _ hi
  rw [h1] at h1'
  cases h1'
  cases e'
  obtain ⟨b, zs, rfl, n2, hb, d2⟩ := dt_lst dw
  exact ⟨p, b, vs', zs, rfl, rfl, hp', hb, by rw [d1'.length, d2.length, sizeLine_eq]; omega, l.nx M σ _ _ q (e1.upd hi h1 (d1'.append d2))⟩
end
end Wn
end

section
/-! The kinds, the wanes, the draws of a plan: what they answer. -/
namespace Wn
open PySem PySem.Spec PyProof.Rows L2
local macro_rules | `(tactic| o_shape) => `(tactic| first | assumption | rfl | trivial | omega | decide)
local macro_rules | `(tactic| o_reads) => `(tactic| first | fail "no rule" | fail)
local macro_rules | `(tactic| o_reads) => `(tactic| first | refine ⟨by exact Nat.le_of_ble_eq_true rfl, ?_⟩ | fail)
local macro_rules | `(tactic| o_reads) => `(tactic| first | refine ⟨rfl, ?_⟩ | fail)
local macro_rules | `(tactic| o_reads) => `(tactic| first | refine ⟨_, _, rfl, ?_⟩ | fail)
local macro_rules | `(tactic| o_reads) => `(tactic| first | refine ⟨_, rfl, ?_⟩ | fail)
local macro_rules | `(tactic| o_reads) => `(tactic| first | refine ⟨⟨by first | decide | omega, by first | decide | omega⟩, ?_⟩ | fail)
local macro_rules | `(tactic| o_reads) => `(tactic| first | with_reducible refine eo_part ?_ | fail)
local macro_rules | `(tactic| o_reads) => `(tactic| first | with_reducible refine eo_none ?_ | fail)
local macro_rules | `(tactic| o_reads) => `(tactic| first | ((with_reducible refine ev_anew ?_ ?_); assumption) | fail)
local macro_rules | `(tactic| o_reads) => `(tactic| first | ((with_reducible refine ev_up ?_ ?_); assumption) | fail)
local macro_rules | `(tactic| o_reads) => `(tactic| first | ((with_reducible refine ev_cap ?_ ?_); assumption) | fail)
local macro_rules | `(tactic| o_reads) => `(tactic| first | ((with_reducible refine ev_ts ?_ ?_); assumption) | fail)
local macro_rules | `(tactic| o_reads) => `(tactic| first | ((with_reducible refine ev_hs ?_ ?_); assumption) | fail)
local macro_rules | `(tactic| o_reads) => `(tactic| first | (((with_reducible apply ev_clB (hg := gAll) (hK := rfl)); assumption); assumption) | fail)
local macro_rules | `(tactic| o_reads) => `(tactic| first | (((with_reducible apply ev_tk rfl); assumption); assumption) | fail)
local macro_rules | `(tactic| o_reads) => `(tactic| first | with_reducible refine ev_cl Sub.pure gAll ?_ | fail)
local macro_rules | `(tactic| o_reads) => `(tactic| first | ((with_reducible refine rc_isS ?_ ?_); first | assumption | (simp [D.tyn]; done) | (apply plainD.ty; assumption)) | fail)
local macro_rules | `(tactic| o_reads) => `(tactic| first | ((with_reducible refine rc_isT ?_ ?_); first | assumption | (simp [D.tyn]; done) | (apply plainD.ty; assumption)) | fail)
local macro_rules | `(tactic| o_reads) => `(tactic| first | ((with_reducible refine rc_isL ?_ ?_); first | assumption | (simp [D.tyn]; done) | (apply plainD.ty; assumption)) | fail)
local macro_rules | `(tactic| o_reads) => `(tactic| first | ((with_reducible refine rc_isB ?_ ?_); first | assumption | (simp [D.tyn]; done) | (apply plainD.ty; assumption)) | fail)
local macro_rules | `(tactic| o_reads) => `(tactic| first | ((with_reducible refine rc_isI ?_ ?_); first | assumption | (simp [D.tyn]; done) | (apply plainD.ty; assumption)) | fail)
local macro_rules | `(tactic| o_reads) => `(tactic| first | with_reducible refine rc_intB ?_ | fail)
local macro_rules | `(tactic| o_reads) => `(tactic| first | with_reducible refine rc_intI ?_ | fail)
local macro_rules | `(tactic| o_reads) => `(tactic| first | with_reducible refine rc_min ?_ | fail)
local macro_rules | `(tactic| o_reads) => `(tactic| first | with_reducible refine rc_max ?_ | fail)
local macro_rules | `(tactic| o_reads) => `(tactic| first | with_reducible refine rc_abs ?_ | fail)
local macro_rules | `(tactic| o_reads) => `(tactic| first | with_reducible refine rc_lenT ?_ | fail)
local macro_rules | `(tactic| o_reads) => `(tactic| first | with_reducible refine rc_lenL ?_ | fail)
local macro_rules | `(tactic| o_reads) => `(tactic| first | with_reducible refine rc_lenD ?_ | fail)
local macro_rules | `(tactic| o_reads) => `(tactic| first | with_reducible refine rd_notN ?_ | fail)
local macro_rules | `(tactic| o_reads) => `(tactic| first | with_reducible refine rd_isN ?_ | fail)
local macro_rules | `(tactic| o_reads) => `(tactic| first | ((with_reducible apply rd_ixL); exact rfl) | fail)
local macro_rules | `(tactic| o_reads) => `(tactic| first | ((with_reducible apply rd_ixT); exact rfl) | fail)
local macro_rules | `(tactic| o_reads) => `(tactic| first | (((with_reducible refine rd_atD ?_ ?_ ?_); (first | assumption | omega)); (first | assumption | omega)) | fail)
local macro_rules | `(tactic| o_reads) => `(tactic| first | with_reducible refine rd_p4 ?_ | fail)
local macro_rules | `(tactic| o_reads) => `(tactic| first | with_reducible refine rd_p3 ?_ | fail)
local macro_rules | `(tactic| o_reads) => `(tactic| first | with_reducible refine rd_p2 ?_ | fail)
local macro_rules | `(tactic| o_reads) => `(tactic| first | with_reducible refine rd_p1 ?_ | fail)
local macro_rules | `(tactic| o_reads) => `(tactic| first | with_reducible refine rd_p0 ?_ | fail)
local macro_rules | `(tactic| o_reads) => `(tactic| first | with_reducible refine ru_neg ?_ | fail)
local macro_rules | `(tactic| o_reads) => `(tactic| first | (((with_reducible refine rd_pow ?_ ?_); exact ⟨by decide, by decide, by decide⟩); dsimp only [Int.reduceToNat]) | fail)
local macro_rules | `(tactic| o_reads) => `(tactic| first | with_reducible refine rd_mul ?_ ?_ | fail)
local macro_rules | `(tactic| o_reads) => `(tactic| first | ((with_reducible refine rd_mul ?_ ?_); first | exact .inl ⟨by omega, by omega⟩ | exact .inr ⟨by omega, by omega⟩) | fail)
local macro_rules | `(tactic| o_reads) => `(tactic| first | with_reducible refine rd_div ?_ ?_ | fail)
local macro_rules | `(tactic| o_reads) => `(tactic| first | ((with_reducible refine rd_div ?_ ?_); exact ⟨by o_shape, by first | decide | (apply lg <;> omega)⟩) | fail)
local macro_rules | `(tactic| o_reads) => `(tactic| first | with_reducible refine rd_mod ?_ ?_ | fail)
local macro_rules | `(tactic| o_reads) => `(tactic| first | ((with_reducible refine rd_mod ?_ ?_); o_shape) | fail)
local macro_rules | `(tactic| o_reads) => `(tactic| first | with_reducible refine rd_ge ?_ | fail)
local macro_rules | `(tactic| o_reads) => `(tactic| first | with_reducible refine rd_gt ?_ | fail)
local macro_rules | `(tactic| o_reads) => `(tactic| first | with_reducible refine rd_le ?_ | fail)
local macro_rules | `(tactic| o_reads) => `(tactic| first | with_reducible refine rd_lt ?_ | fail)
local macro_rules | `(tactic| o_reads) => `(tactic| first | with_reducible refine rd_neS ?_ | fail)
local macro_rules | `(tactic| o_reads) => `(tactic| first | with_reducible refine rd_neI ?_ | fail)
local macro_rules | `(tactic| o_reads) => `(tactic| first | with_reducible refine rd_eqS ?_ | fail)
local macro_rules | `(tactic| o_reads) => `(tactic| first | with_reducible refine rd_eqB ?_ | fail)
local macro_rules | `(tactic| o_reads) => `(tactic| first | with_reducible refine rd_eqI ?_ | fail)
local macro_rules | `(tactic| o_reads) => `(tactic| first | with_reducible refine rd_sub ?_ | fail)
local macro_rules | `(tactic| o_reads) => `(tactic| first | with_reducible refine rd_addI ?_ | fail)
local macro_rules | `(tactic| o_reads) => `(tactic| first | with_reducible refine g_tup rfl ?_ | fail)
local macro_rules | `(tactic| o_reads) => `(tactic| first | with_reducible refine gs_nil ?_ | fail)
local macro_rules | `(tactic| o_reads) => `(tactic| first | with_reducible refine gs_cons ?_ | fail)
local macro_rules | `(tactic| o_reads) => `(tactic| first | with_reducible refine g_name ?_ | fail)
local macro_rules | `(tactic| o_reads) => `(tactic| first | with_reducible refine b_asgG ?_ | fail)
local macro_rules | `(tactic| o_reads) => `(tactic| first | ((with_reducible apply b_aug); exact rfl) | fail)
local macro_rules | `(tactic| o_reads) => `(tactic| first | with_reducible refine b_par ?_ | fail)
local macro_rules | `(tactic| o_reads) => `(tactic| first | with_reducible refine b_drop ?_ | fail)
local macro_rules | `(tactic| o_reads) => `(tactic| first | with_reducible refine b_cont ?_ | fail)
local macro_rules | `(tactic| o_reads) => `(tactic| first | with_reducible refine b_brk ?_ | fail)
local macro_rules | `(tactic| o_reads) => `(tactic| first | with_reducible refine b_retN ?_ | fail)
local macro_rules | `(tactic| o_reads) => `(tactic| first | with_reducible refine b_asg ?_ | fail)
local macro_rules | `(tactic| o_reads) => `(tactic| first | with_reducible refine b_next ?_ | fail)
local macro_rules | `(tactic| o_reads) => `(tactic| first | with_reducible refine b_ret ?_ | fail)
local macro_rules | `(tactic| o_reads) => `(tactic| first | with_reducible refine b_if ?_ | fail)
local macro_rules | `(tactic| o_reads) => `(tactic| first | with_reducible refine b_seq ?_ | fail)
local macro_rules | `(tactic| o_reads) => `(tactic| first | with_reducible refine ev_chain ?_ | fail)
local macro_rules | `(tactic| o_reads) => `(tactic| first | with_reducible refine ev_if ?_ | fail)
local macro_rules | `(tactic| o_reads) => `(tactic| first | with_reducible refine ev_notV ?_ | fail)
local macro_rules | `(tactic| o_reads) => `(tactic| first | with_reducible refine ev_orV ?_ | fail)
local macro_rules | `(tactic| o_reads) => `(tactic| first | with_reducible refine ev_andV ?_ | fail)
local macro_rules | `(tactic| o_reads) => `(tactic| first | with_reducible refine ev_lst ?_ | fail)
local macro_rules | `(tactic| o_reads) => `(tactic| first | with_reducible refine ev_tup ?_ | fail)
local macro_rules | `(tactic| o_reads) => `(tactic| first | with_reducible refine et_or ?_ | fail)
local macro_rules | `(tactic| o_reads) => `(tactic| first | with_reducible refine et_and ?_ | fail)
local macro_rules | `(tactic| o_reads) => `(tactic| first | with_reducible refine et_not ?_ | fail)
local macro_rules | `(tactic| o_reads) => `(tactic| first | with_reducible refine et_b ?_ | fail)
local macro_rules | `(tactic| o_reads) => `(tactic| first | with_reducible refine et_test ?_ | fail)
local macro_rules | `(tactic| o_reads) => `(tactic| first | with_reducible refine ev_cb ?_ | fail)
local macro_rules | `(tactic| o_reads) => `(tactic| first | with_reducible refine ev_un ?_ | fail)
local macro_rules | `(tactic| o_reads) => `(tactic| first | with_reducible refine ev_op ?_ | fail)
local macro_rules | `(tactic| o_reads) => `(tactic| first | with_reducible refine ea_cons ?_ | fail)
local macro_rules | `(tactic| o_reads) => `(tactic| first | with_reducible refine ea_nil ?_ | fail)
local macro_rules | `(tactic| o_reads) => `(tactic| first | with_reducible refine ev_ty ?_ | fail)
local macro_rules | `(tactic| o_reads) => `(tactic| first | with_reducible refine ev_non ?_ | fail)
local macro_rules | `(tactic| o_reads) => `(tactic| first | with_reducible refine ev_bl ?_ | fail)
local macro_rules | `(tactic| o_reads) => `(tactic| first | with_reducible refine ev_str ?_ | fail)
local macro_rules | `(tactic| o_reads) => `(tactic| first | with_reducible refine ev_int ?_ | fail)
local macro_rules | `(tactic| o_reads) => `(tactic| first | ((with_reducible apply ev_var); exact rfl) | fail)
local macro_rules | `(tactic| o_readsAll) => `(tactic| repeat' o_reads)
/-! ### the kinds -/
def wholeB : D → Bool
  | .int _ => true
  | _ => false
def withinB (d : D) (a b : Int) : Bool := match d with
  | .int i => decide (a ≤ i ∧ i ≤ b)
  | _ => false
def stepB : D → Bool
  | .tup [x, y] => withinB x 1 9 && withinB y 0 (10 ^ 9)
  | _ => false
def headB : D → Bool
  | .lst xs => decide (xs.length ≤ 24) && xs.all stepB
  | _ => false
def tailB : D → Bool
  | .lst xs => decide (xs.length ∈ [1, 2, 3, 4, 6, 8, 12, 24]) && xs.all stepB
  | _ => false
def F_is_whole (_ : PySem.W.Frag) : FSpec := fun ds Φ _ => ∃ d, ds = [d] ∧ d.tyn ≠ "" ∧ Φ (.bl (wholeB d))
def F_is_within (_ : PySem.W.Frag) : FSpec := fun ds Φ _ => ∃ d a b, ds = [d, .int a, .int b] ∧ d.tyn ≠ "" ∧ Φ (.bl (withinB d a b))
def F_is_size (_ : PySem.W.Frag) : FSpec := fun ds Φ _ => ∃ d, ds = [d] ∧ d.tyn ≠ "" ∧ Φ (.bl (withinB d 0 (10 ^ 9)))
def F_is_strength (_ : PySem.W.Frag) : FSpec := fun ds Φ _ => ∃ d, ds = [d] ∧ d.tyn ≠ "" ∧ Φ (.bl (withinB d 1 (10 ^ 9)))
def F_is_moment (_ : PySem.W.Frag) : FSpec := fun ds Φ _ => ∃ d, ds = [d] ∧ d.tyn ≠ "" ∧ Φ (.bl (withinB d 0 (10 ^ 30)))
def F_is_step (_ : PySem.W.Frag) : FSpec := fun ds Φ _ => ∃ d, ds = [d] ∧ plainD d ∧ Φ (.bl (stepB d))
def F_is_head (_ : PySem.W.Frag) : FSpec := fun ds Φ _ => ∃ d, ds = [d] ∧ plainD d ∧ Φ (.bl (headB d))
def F_is_tail (_ : PySem.W.Frag) : FSpec := fun ds Φ _ => ∃ d, ds = [d] ∧ plainD d ∧ Φ (.bl (tailB d))
def t_is_whole (K : PySem.W.Frag) (E : XK) : TS :=
    (tRet (tAndV (tCB (rIsi K) (tCons (tVar 0) (tCons (tC (.ty "int")) tNil))) (tNotV (tCB (rIsi K) (tCons (tVar 0) (tCons (tC (.ty "bool")) tNil))))))
def t_is_within (K : PySem.W.Frag) (E : XK) : TS :=
    (tRet (tAndV (tCl 1 0 (lift K pureM (F_is_whole K)) gvAll E (tCons (tVar 0) tNil) tNil) (tChain rLeU rLeU (tVar 1) (tVar 0) (tVar 2))))
def t_is_size (K : PySem.W.Frag) (E : XK) : TS :=
    (tRet (tCl 3 0 (lift K pureM (F_is_within K)) gvAll E (tCons (tVar 0) (tCons (tC (.int 0)) (tCons (tC (.int (10 ^ 9))) tNil))) tNil))
def t_is_strength (K : PySem.W.Frag) (E : XK) : TS :=
    (tRet (tCl 3 0 (lift K pureM (F_is_within K)) gvAll E (tCons (tVar 0) (tCons (tC (.int 1)) (tCons (tC (.int (10 ^ 9))) tNil))) tNil))
def t_is_moment (K : PySem.W.Frag) (E : XK) : TS :=
    (tRet (tCl 3 0 (lift K pureM (F_is_within K)) gvAll E (tCons (tVar 0) (tCons (tC (.int 0)) (tCons (tC (.int (10 ^ 30))) tNil))) tNil))
theorem pure_is_whole {K : PySem.W.Frag} {vs : List V} {H : Hp} {Q : VK} {E : XK} (h : lift K pureM (F_is_whole K) vs H Q E) : t_is_whole K E { nx := fun _ H' => Q .non H', rt := Q } (L2.start ["thing"] vs) H :=
  lift_of (t := t_is_whole K) (fun C ds Φ hK hm hE hn ⟨d, e, ty, q⟩ => by
    subst hK hE e
    unfold t_is_whole
    o_readsAll
    refine ⟨fun z => ?_, fun z => ?_⟩
    · o_readsAll
      have : (!d.isB) = wholeB d := by cases d <;> first | rfl | cases z
      rw [this]
      exact q
    · have : wholeB d = false := by cases d <;> first | rfl | cases z
      rw [this] at q
      exact q) h
theorem pure_is_within {K : PySem.W.Frag} {vs : List V} {H : Hp} {Q : VK} {E : XK} (h : lift K pureM (F_is_within K) vs H Q E) : t_is_within K E { nx := fun _ H' => Q .non H', rt := Q } (L2.start ["thing", "least", "most"] vs) H :=
  lift_of (t := t_is_within K) (fun C ds Φ hK hm hE hn ⟨d, a, b, e, ty, q⟩ => by
    subst hK hE e
    unfold t_is_within
    o_reads; o_reads
    refine ev_cl Sub.pure gAll ?_
    o_reads; o_reads; o_reads; o_reads
    refine ⟨rfl, rfl, d, rfl, ty, _, rfl, fun z => ?_, fun z => ?_⟩
    · cases d with
      | int i =>
        refine ev_chain ?_
        o_reads; o_reads; o_reads
        refine ⟨_, rfl, fun z => ?_, fun z => ?_⟩
        · o_reads; o_reads
          have : decide (i ≤ b) = withinB (.int i) a b := by
            have := of_decide_eq_true z
            unfold withinB
            simp [this]
          rw [this]
          exact q
        · have : withinB (.int i) a b = false := by
            have := of_decide_eq_false z
            unfold withinB
            simp [this]
          rw [← this]
          exact q
      | _ => cases z
    · cases d with
      | int i => cases z
      | _ => exact q) h
theorem pure_is_size {K : PySem.W.Frag} {vs : List V} {H : Hp} {Q : VK} {E : XK} (h : lift K pureM (F_is_size K) vs H Q E) : t_is_size K E { nx := fun _ H' => Q .non H', rt := Q } (L2.start ["thing"] vs) H :=
  lift_of (t := t_is_size K) (fun C ds Φ hK hm hE hn ⟨d, e, ty, q⟩ => by
    subst hK hE e
    exact b_ret (ev_cl Sub.pure gAll (ea_cons (ev_var rfl (ea_cons (ev_int (ea_cons (ev_int (ea_nil (ea_nil ⟨rfl, rfl, d, _, _, rfl, ty, q⟩))))))))) ) h
theorem pure_is_strength {K : PySem.W.Frag} {vs : List V} {H : Hp} {Q : VK} {E : XK} (h : lift K pureM (F_is_strength K) vs H Q E) : t_is_strength K E { nx := fun _ H' => Q .non H', rt := Q } (L2.start ["thing"] vs) H :=
  lift_of (t := t_is_strength K) (fun C ds Φ hK hm hE hn ⟨d, e, ty, q⟩ => by
    subst hK hE e
    exact b_ret (ev_cl Sub.pure gAll (ea_cons (ev_var rfl (ea_cons (ev_int (ea_cons (ev_int (ea_nil (ea_nil ⟨rfl, rfl, d, _, _, rfl, ty, q⟩))))))))) ) h
theorem pure_is_moment {K : PySem.W.Frag} {vs : List V} {H : Hp} {Q : VK} {E : XK} (h : lift K pureM (F_is_moment K) vs H Q E) : t_is_moment K E { nx := fun _ H' => Q .non H', rt := Q } (L2.start ["thing"] vs) H :=
  lift_of (t := t_is_moment K) (fun C ds Φ hK hm hE hn ⟨d, e, ty, q⟩ => by
    subst hK hE e
    exact b_ret (ev_cl Sub.pure gAll (ea_cons (ev_var rfl (ea_cons (ev_int (ea_cons (ev_int (ea_nil (ea_nil ⟨rfl, rfl, d, _, _, rfl, ty, q⟩))))))))) ) h

def t_is_step (K : PySem.W.Frag) (E : XK) : TS :=
    (tRet (tAndV (tCB (rIsi K) (tCons (tVar 0) (tCons (tC (.ty "tuple")) tNil))) (tAndV (tOp (rEqU K) (tCB (rLenU K) (tCons (tVar 0) tNil)) (tC (.int 2))) (tAndV (tCl 3 0 (lift K pureM (F_is_within K)) gvAll E (tCons (tOp (rIx K) (tVar 0) (tC (.int 0))) (tCons (tC (.int 1)) (tCons (tC (.int 9)) tNil))) tNil) (tCl 1 0 (lift K pureM (F_is_size K)) gvAll E (tCons (tOp (rIx K) (tVar 0) (tC (.int 1))) tNil) tNil)))))
def t_is_head (K : PySem.W.Frag) (E : XK) : TS :=
    (tRet (tAndV (tCB (rIsi K) (tCons (tVar 0) (tCons (tC (.ty "list")) tNil))) (tAndV (tOp rLeU (tCB (rLenU K) (tCons (tVar 0) tNil)) (tC (.int (24)))) (tCB (rAll K) (tCons (tLc (iU K (tVar 0)) (gName 1) tYes (tCl 1 0 (lift K pureM (F_is_step K)) gvAll E (tCons (tVar 1) tNil) tNil) [1]) tNil)))))
def t_is_tail (K : PySem.W.Frag) (E : XK) : TS :=
    (tRet (tAndV (tCB (rIsi K) (tCons (tVar 0) (tCons (tC (.ty "list")) tNil))) (tAndV (tOp (rInU K) (tCB (rLenU K) (tCons (tVar 0) tNil)) (tC (.ref (He.ga K "TAILS")))) (tCB (rAll K) (tCons (tLc (iU K (tVar 0)) (gName 1) tYes (tCl 1 0 (lift K pureM (F_is_step K)) gvAll E (tCons (tVar 1) tNil) tNil) [1]) tNil)))))
theorem pure_is_step {K : PySem.W.Frag} {vs : List V} {H : Hp} {Q : VK} {E : XK} (h : lift K pureM (F_is_step K) vs H Q E) : t_is_step K E { nx := fun _ H' => Q .non H', rt := Q } (L2.start ["thing"] vs) H :=
  lift_of (t := t_is_step K) (fun C ds Φ hK hm hE hn ⟨d, e, pl, q⟩ => by
    subst hK hE e
    unfold t_is_step
    have ty := pl.ty
    o_readsAll
    refine ⟨fun z => ?_, fun z => ?_⟩
    · obtain ⟨xs, rfl⟩ : ∃ xs, d = .tup xs := by cases d <;> first | exact ⟨_, rfl⟩ | cases z
      o_readsAll
      refine ⟨fun z => ?_, fun z => ?_⟩
      · have z := of_decide_eq_true z
        match xs, z, pl, q with
        | [x, y], _, pl, q =>
          have hx := pl.tup (x := x) (by simp)
          have hy := pl.tup (x := y) (by simp)
          o_readsAll
          refine ⟨x, _, _, rfl, hx.ty, _, rfl, fun z => ?_, fun z => ?_⟩
          · o_readsAll
            refine ⟨hy.ty, ?_⟩
            have e : withinB y 0 (10 ^ 9) = stepB (.tup [x, y]) := by
              show _ = (withinB x 1 9 && withinB y 0 (10 ^ 9))
              rw [z, Bool.true_and]
            rw [e]
            exact q
          · have e : false = stepB (.tup [x, y]) := by
              show _ = (withinB x 1 9 && withinB y 0 (10 ^ 9))
              rw [z, Bool.false_and]
            rw [e]
            exact q
      · have z := of_decide_eq_false z
        have e : false = stepB (.tup xs) := by
          match xs, z with
          | [], _ => rfl
          | [_], _ => rfl
          | [_, _], z => exact absurd rfl z
          | _ :: _ :: _ :: _, _ => rfl
        rw [e]
        exact q
    · have e : false = stepB d := by cases d <;> first | rfl | cases z
      rw [e]
      exact q) h
theorem take_all {α β : Type} (f : α → β) (xs : List α) (k : Nat) (x : α) (h : xs[k]? = some x) : (xs.take (k + 1)).map f = (xs.take k).map f ++ [f x] := by
  rw [List.take_succ, h, List.map_append]
  rfl
/-- all([is_step(one) for one in thing]) -/
theorem steps_all {C : Ctx} {xs : List D} {Φ : D → Prop} {δ : List Sl} (hd : δ[0]? = some (.d (.lst xs))) (hl : δ.length = 2) (h1 : δ[1]? = some .no) (pl : plainD (.lst xs)) (hn : xs.length ≤ 24) (q : Φ (.bl (xs.all stepB))) :
    EvD C (tCB (rAll C.K) (tCons (tLc (iU C.K (tVar 0)) (gName 1) tYes (tCl 1 0 (lift C.K pureM (F_is_step C.K)) gvAll C.E (tCons (tVar 1) tNil) tNil) [1]) tNil)) δ Φ := by
  refine ev_cb (ea_cons (ev_new (en_uL (en_lcL rfl (ds := xs) (fun k acc => acc = (xs.take k).map fun x => D.bl (stepB x)) (ev_var hd rfl) (by omega) (fun c fs z => by rw [h1] at z; cases z) rfl (fun k x acc hx e => ?_) fun acc e => ea_nil ?_))))
  · refine fun fz M σ H en Q kk => kk true H ⟨fun _ => ?_, fun z => by cases z⟩ en (Ext.refl _ _)
    refine ev_cl Sub.pure gAll (ea_cons (ev_var (List.getElem?_set_self (by omega)) (ea_nil (ea_nil ⟨rfl, rfl, x, rfl, pl.lst (List.mem_of_getElem? hx), ?_⟩))))
    show _ = _
    rw [e, take_all _ _ _ _ hx]
  · rw [List.take_length] at e
    refine rc_all (bs := xs.map stepB) (by rw [e, List.map_map]; rfl) ?_
    rw [List.all_map]
    exact q
theorem pure_is_head {K : PySem.W.Frag} {vs : List V} {H : Hp} {Q : VK} {E : XK} (h : lift K pureM (F_is_head K) vs H Q E) : t_is_head K E { nx := fun _ H' => Q .non H', rt := Q } (L2.start ["thing", "one"] vs) H :=
  lift_of (t := t_is_head K) (fun C ds Φ hK hm hE hn ⟨d, e, pl, q⟩ => by
    subst hK hE e
    unfold t_is_head
    have ty := pl.ty
    o_readsAll
    refine ⟨fun z => ?_, fun z => ?_⟩
    · obtain ⟨xs, rfl⟩ : ∃ xs, d = .lst xs := by cases d <;> first | exact ⟨_, rfl⟩ | cases z
      o_readsAll
      refine ⟨fun z => ?_, fun z => ?_⟩
      · have z := of_decide_eq_true z
        refine steps_all rfl rfl rfl pl (by omega) ?_
        have e : xs.all stepB = headB (.lst xs) := by
          show _ = (decide (xs.length ≤ 24) && xs.all stepB)
          rw [decide_eq_true (by omega), Bool.true_and]
        rw [e]
        exact q
      · have z := of_decide_eq_false z
        have e : false = headB (.lst xs) := by
          show _ = (decide (xs.length ≤ 24) && xs.all stepB)
          rw [decide_eq_false (by omega), Bool.false_and]
        rw [e]
        exact q
    · have e : false = headB d := by cases d <;> first | rfl | cases z
      rw [e]
      exact q) h
def TailsK (K : PySem.W.Frag) : Prop := ∀ H', SqT K H' (He.ga K "TAILS") [.int 1, .int 2, .int 3, .int 4, .int 6, .int 8, .int 12, .int 24]
theorem pure_is_tail {K : PySem.W.Frag} (hT : TailsK K) {vs : List V} {H : Hp} {Q : VK} {E : XK} (h : lift K pureM (F_is_tail K) vs H Q E) : t_is_tail K E { nx := fun _ H' => Q .non H', rt := Q } (L2.start ["thing", "one"] vs) H :=
  lift_of (t := t_is_tail K) (fun C ds Φ hK hm hE hn ⟨d, e, pl, q⟩ => by
    subst hK hE e
    unfold t_is_tail
    have ty := pl.ty
    o_readsAll
    refine ⟨fun z => ?_, fun z => ?_⟩
    · obtain ⟨xs, rfl⟩ : ∃ xs, d = .lst xs := by cases d <;> first | exact ⟨_, rfl⟩ | cases z
      o_readsAll
      refine ev_ktup (ds := [.int 1, .int 2, .int 3, .int 4, .int 6, .int 8, .int 12, .int 24]) hT (fun M H => .cons (.int _) (.cons (.int _) (.cons (.int _) (.cons (.int _) (.cons (.int _) (.cons (.int _) (.cons (.int _) (.cons (.int _) .nil)))))))) ?_
      refine rd_inT rfl rfl ?_
      have en : inV (D.v (.int (xs.length : Int))) (List.map D.v [.int 1, .int 2, .int 3, .int 4, .int 6, .int 8, .int 12, .int 24]) = decide (xs.length ∈ [1, 2, 3, 4, 6, 8, 12, 24]) := by
        generalize xs.length = m
        have e : ∀ k : Int, eqV (.int k) (.int (m : Int)) = decide (k = (m : Int)) := fun k => rfl
        simp only [inV, List.map, D.v, List.any, e, Bool.or_false]
        apply Bool.eq_iff_iff.mpr
        simp only [Bool.or_eq_true, decide_eq_true_eq, List.mem_cons, List.not_mem_nil, or_false]
        omega
      rw [en]
      refine ⟨_, rfl, fun z => ?_, fun z => ?_⟩
      · have z := of_decide_eq_true z
        have hl : xs.length ≤ 24 := by
          simp only [List.mem_cons, List.not_mem_nil, or_false] at z
          omega
        refine steps_all rfl rfl rfl pl hl ?_
        have e : xs.all stepB = tailB (.lst xs) := by
          show _ = (decide (xs.length ∈ [1, 2, 3, 4, 6, 8, 12, 24]) && xs.all stepB)
          rw [decide_eq_true z, Bool.true_and]
        rw [e]
        exact q
      · have z := of_decide_eq_false z
        have e : false = tailB (.lst xs) := by
          show _ = (decide (xs.length ∈ [1, 2, 3, 4, 6, 8, 12, 24]) && xs.all stepB)
          rw [decide_eq_false z, Bool.false_and]
        rw [e]
        exact q
    · have e : false = tailB d := by cases d <;> first | rfl | cases z
      rw [e]
      exact q) h
end Wn
end

section
/-! Plans and wanes: what they answer. -/
namespace Wn
open PySem PySem.Spec PyProof.Rows L2
local macro_rules | `(tactic| o_shape) => `(tactic| first | assumption | rfl | trivial | omega | decide)
local macro_rules | `(tactic| o_reads) => `(tactic| first | fail "no rule" | fail)
local macro_rules | `(tactic| o_reads) => `(tactic| first | refine ⟨by exact Nat.le_of_ble_eq_true rfl, ?_⟩ | fail)
local macro_rules | `(tactic| o_reads) => `(tactic| first | refine ⟨rfl, ?_⟩ | fail)
local macro_rules | `(tactic| o_reads) => `(tactic| first | refine ⟨_, _, rfl, ?_⟩ | fail)
local macro_rules | `(tactic| o_reads) => `(tactic| first | refine ⟨_, rfl, ?_⟩ | fail)
local macro_rules | `(tactic| o_reads) => `(tactic| first | refine ⟨⟨by first | decide | omega, by first | decide | omega⟩, ?_⟩ | fail)
local macro_rules | `(tactic| o_reads) => `(tactic| first | with_reducible refine eo_part ?_ | fail)
local macro_rules | `(tactic| o_reads) => `(tactic| first | with_reducible refine eo_none ?_ | fail)
local macro_rules | `(tactic| o_reads) => `(tactic| first | ((with_reducible refine ev_anew ?_ ?_); assumption) | fail)
local macro_rules | `(tactic| o_reads) => `(tactic| first | ((with_reducible refine ev_up ?_ ?_); assumption) | fail)
local macro_rules | `(tactic| o_reads) => `(tactic| first | ((with_reducible refine ev_cap ?_ ?_); assumption) | fail)
local macro_rules | `(tactic| o_reads) => `(tactic| first | ((with_reducible refine ev_ts ?_ ?_); assumption) | fail)
local macro_rules | `(tactic| o_reads) => `(tactic| first | ((with_reducible refine ev_hs ?_ ?_); assumption) | fail)
local macro_rules | `(tactic| o_reads) => `(tactic| first | (((with_reducible apply ev_clB (hg := gAll) (hK := rfl)); assumption); assumption) | fail)
local macro_rules | `(tactic| o_reads) => `(tactic| first | (((with_reducible apply ev_tk rfl); assumption); assumption) | fail)
local macro_rules | `(tactic| o_reads) => `(tactic| first | with_reducible refine ev_cl Sub.pure gAll ?_ | fail)
local macro_rules | `(tactic| o_reads) => `(tactic| first | ((with_reducible refine rc_isS ?_ ?_); first | assumption | (simp [D.tyn]; done) | (apply plainD.ty; assumption)) | fail)
local macro_rules | `(tactic| o_reads) => `(tactic| first | ((with_reducible refine rc_isT ?_ ?_); first | assumption | (simp [D.tyn]; done) | (apply plainD.ty; assumption)) | fail)
local macro_rules | `(tactic| o_reads) => `(tactic| first | ((with_reducible refine rc_isL ?_ ?_); first | assumption | (simp [D.tyn]; done) | (apply plainD.ty; assumption)) | fail)
local macro_rules | `(tactic| o_reads) => `(tactic| first | ((with_reducible refine rc_isB ?_ ?_); first | assumption | (simp [D.tyn]; done) | (apply plainD.ty; assumption)) | fail)
local macro_rules | `(tactic| o_reads) => `(tactic| first | ((with_reducible refine rc_isI ?_ ?_); first | assumption | (simp [D.tyn]; done) | (apply plainD.ty; assumption)) | fail)
local macro_rules | `(tactic| o_reads) => `(tactic| first | with_reducible refine rc_intB ?_ | fail)
local macro_rules | `(tactic| o_reads) => `(tactic| first | with_reducible refine rc_intI ?_ | fail)
local macro_rules | `(tactic| o_reads) => `(tactic| first | with_reducible refine rc_min ?_ | fail)
local macro_rules | `(tactic| o_reads) => `(tactic| first | with_reducible refine rc_max ?_ | fail)
local macro_rules | `(tactic| o_reads) => `(tactic| first | with_reducible refine rc_abs ?_ | fail)
local macro_rules | `(tactic| o_reads) => `(tactic| first | with_reducible refine rc_lenT ?_ | fail)
local macro_rules | `(tactic| o_reads) => `(tactic| first | with_reducible refine rc_lenL ?_ | fail)
local macro_rules | `(tactic| o_reads) => `(tactic| first | with_reducible refine rc_lenD ?_ | fail)
local macro_rules | `(tactic| o_reads) => `(tactic| first | with_reducible refine rd_notN ?_ | fail)
local macro_rules | `(tactic| o_reads) => `(tactic| first | with_reducible refine rd_isN ?_ | fail)
local macro_rules | `(tactic| o_reads) => `(tactic| first | ((with_reducible apply rd_ixL); exact rfl) | fail)
local macro_rules | `(tactic| o_reads) => `(tactic| first | ((with_reducible apply rd_ixT); exact rfl) | fail)
local macro_rules | `(tactic| o_reads) => `(tactic| first | (((with_reducible refine rd_atD ?_ ?_ ?_); (first | assumption | omega)); (first | assumption | omega)) | fail)
local macro_rules | `(tactic| o_reads) => `(tactic| first | with_reducible refine rd_p4 ?_ | fail)
local macro_rules | `(tactic| o_reads) => `(tactic| first | with_reducible refine rd_p3 ?_ | fail)
local macro_rules | `(tactic| o_reads) => `(tactic| first | with_reducible refine rd_p2 ?_ | fail)
local macro_rules | `(tactic| o_reads) => `(tactic| first | with_reducible refine rd_p1 ?_ | fail)
local macro_rules | `(tactic| o_reads) => `(tactic| first | with_reducible refine rd_p0 ?_ | fail)
local macro_rules | `(tactic| o_reads) => `(tactic| first | with_reducible refine ru_neg ?_ | fail)
local macro_rules | `(tactic| o_reads) => `(tactic| first | (((with_reducible refine rd_pow ?_ ?_); exact ⟨by decide, by decide, by decide⟩); dsimp only [Int.reduceToNat]) | fail)
local macro_rules | `(tactic| o_reads) => `(tactic| first | with_reducible refine rd_mul ?_ ?_ | fail)
local macro_rules | `(tactic| o_reads) => `(tactic| first | ((with_reducible refine rd_mul ?_ ?_); first | exact .inl ⟨by omega, by omega⟩ | exact .inr ⟨by omega, by omega⟩) | fail)
local macro_rules | `(tactic| o_reads) => `(tactic| first | with_reducible refine rd_div ?_ ?_ | fail)
local macro_rules | `(tactic| o_reads) => `(tactic| first | ((with_reducible refine rd_div ?_ ?_); exact ⟨by o_shape, by first | decide | (apply lg <;> omega)⟩) | fail)
local macro_rules | `(tactic| o_reads) => `(tactic| first | with_reducible refine rd_mod ?_ ?_ | fail)
local macro_rules | `(tactic| o_reads) => `(tactic| first | ((with_reducible refine rd_mod ?_ ?_); o_shape) | fail)
local macro_rules | `(tactic| o_reads) => `(tactic| first | with_reducible refine rd_ge ?_ | fail)
local macro_rules | `(tactic| o_reads) => `(tactic| first | with_reducible refine rd_gt ?_ | fail)
local macro_rules | `(tactic| o_reads) => `(tactic| first | with_reducible refine rd_le ?_ | fail)
local macro_rules | `(tactic| o_reads) => `(tactic| first | with_reducible refine rd_lt ?_ | fail)
local macro_rules | `(tactic| o_reads) => `(tactic| first | with_reducible refine rd_neS ?_ | fail)
local macro_rules | `(tactic| o_reads) => `(tactic| first | with_reducible refine rd_neI ?_ | fail)
local macro_rules | `(tactic| o_reads) => `(tactic| first | with_reducible refine rd_eqS ?_ | fail)
local macro_rules | `(tactic| o_reads) => `(tactic| first | with_reducible refine rd_eqB ?_ | fail)
local macro_rules | `(tactic| o_reads) => `(tactic| first | with_reducible refine rd_eqI ?_ | fail)
local macro_rules | `(tactic| o_reads) => `(tactic| first | with_reducible refine rd_sub ?_ | fail)
local macro_rules | `(tactic| o_reads) => `(tactic| first | with_reducible refine rd_addI ?_ | fail)
local macro_rules | `(tactic| o_reads) => `(tactic| first | with_reducible refine g_tup rfl ?_ | fail)
local macro_rules | `(tactic| o_reads) => `(tactic| first | with_reducible refine gs_nil ?_ | fail)
local macro_rules | `(tactic| o_reads) => `(tactic| first | with_reducible refine gs_cons ?_ | fail)
local macro_rules | `(tactic| o_reads) => `(tactic| first | with_reducible refine g_name ?_ | fail)
local macro_rules | `(tactic| o_reads) => `(tactic| first | with_reducible refine b_asgG ?_ | fail)
local macro_rules | `(tactic| o_reads) => `(tactic| first | ((with_reducible apply b_aug); exact rfl) | fail)
local macro_rules | `(tactic| o_reads) => `(tactic| first | with_reducible refine b_par ?_ | fail)
local macro_rules | `(tactic| o_reads) => `(tactic| first | with_reducible refine b_drop ?_ | fail)
local macro_rules | `(tactic| o_reads) => `(tactic| first | with_reducible refine b_cont ?_ | fail)
local macro_rules | `(tactic| o_reads) => `(tactic| first | with_reducible refine b_brk ?_ | fail)
local macro_rules | `(tactic| o_reads) => `(tactic| first | with_reducible refine b_retN ?_ | fail)
local macro_rules | `(tactic| o_reads) => `(tactic| first | with_reducible refine b_asg ?_ | fail)
local macro_rules | `(tactic| o_reads) => `(tactic| first | with_reducible refine b_next ?_ | fail)
local macro_rules | `(tactic| o_reads) => `(tactic| first | with_reducible refine b_ret ?_ | fail)
local macro_rules | `(tactic| o_reads) => `(tactic| first | with_reducible refine b_if ?_ | fail)
local macro_rules | `(tactic| o_reads) => `(tactic| first | with_reducible refine b_seq ?_ | fail)
local macro_rules | `(tactic| o_reads) => `(tactic| first | with_reducible refine ev_chain ?_ | fail)
local macro_rules | `(tactic| o_reads) => `(tactic| first | with_reducible refine ev_if ?_ | fail)
local macro_rules | `(tactic| o_reads) => `(tactic| first | with_reducible refine ev_notV ?_ | fail)
local macro_rules | `(tactic| o_reads) => `(tactic| first | with_reducible refine ev_orV ?_ | fail)
local macro_rules | `(tactic| o_reads) => `(tactic| first | with_reducible refine ev_andV ?_ | fail)
local macro_rules | `(tactic| o_reads) => `(tactic| first | with_reducible refine ev_lst ?_ | fail)
local macro_rules | `(tactic| o_reads) => `(tactic| first | with_reducible refine ev_tup ?_ | fail)
local macro_rules | `(tactic| o_reads) => `(tactic| first | with_reducible refine et_or ?_ | fail)
local macro_rules | `(tactic| o_reads) => `(tactic| first | with_reducible refine et_and ?_ | fail)
local macro_rules | `(tactic| o_reads) => `(tactic| first | with_reducible refine et_not ?_ | fail)
local macro_rules | `(tactic| o_reads) => `(tactic| first | with_reducible refine et_b ?_ | fail)
local macro_rules | `(tactic| o_reads) => `(tactic| first | with_reducible refine et_test ?_ | fail)
local macro_rules | `(tactic| o_reads) => `(tactic| first | with_reducible refine ev_cb ?_ | fail)
local macro_rules | `(tactic| o_reads) => `(tactic| first | with_reducible refine ev_un ?_ | fail)
local macro_rules | `(tactic| o_reads) => `(tactic| first | with_reducible refine ev_op ?_ | fail)
local macro_rules | `(tactic| o_reads) => `(tactic| first | with_reducible refine ea_cons ?_ | fail)
local macro_rules | `(tactic| o_reads) => `(tactic| first | with_reducible refine ea_nil ?_ | fail)
local macro_rules | `(tactic| o_reads) => `(tactic| first | with_reducible refine ev_ty ?_ | fail)
local macro_rules | `(tactic| o_reads) => `(tactic| first | with_reducible refine ev_non ?_ | fail)
local macro_rules | `(tactic| o_reads) => `(tactic| first | with_reducible refine ev_bl ?_ | fail)
local macro_rules | `(tactic| o_reads) => `(tactic| first | with_reducible refine ev_str ?_ | fail)
local macro_rules | `(tactic| o_reads) => `(tactic| first | with_reducible refine ev_int ?_ | fail)
local macro_rules | `(tactic| o_reads) => `(tactic| first | ((with_reducible apply ev_var); exact rfl) | fail)
local macro_rules | `(tactic| o_readsAll) => `(tactic| repeat' o_reads)
/-! ### a plan -/
structure Plan where
  hs : List (Int × Int)
  ts : List (Int × Int)
  cap : Int
  up : Int
  anew : Bool
def StepOk (s : Int × Int) : Prop := 1 ≤ s.1 ∧ s.1 ≤ 9 ∧ 0 ≤ s.2 ∧ s.2 ≤ 10 ^ 9
structure Plan.Ok (p : Plan) : Prop where
  hl : p.hs.length ≤ 24
  tl : p.ts.length ∈ [1, 2, 3, 4, 6, 8, 12, 24]
  hok : ∀ s ∈ p.hs, StepOk s
  tok : ∀ s ∈ p.ts, StepOk s
  c1 : 1 ≤ p.cap
  c2 : p.cap ≤ 10 ^ 9
  u1 : 0 ≤ p.up
  u2 : p.up ≤ 10 ^ 9
theorem Plan.Ok.tpos {p : Plan} (h : p.Ok) : 1 ≤ p.ts.length ∧ p.ts.length ≤ 24 := by
  have := h.tl
  simp only [List.mem_cons, List.not_mem_nil, or_false] at this
  omega
/-- the tail's length parts 24 -/
theorem Plan.Ok.t24 {p : Plan} (h : p.Ok) : ∃ k : Int, 24 = (p.ts.length : Int) * k := by
  have := h.tl
  simp only [List.mem_cons, List.not_mem_nil, or_false] at this
  rcases this with e | e | e | e | e | e | e | e <;> rw [e]
  · exact ⟨24, by decide⟩
  · exact ⟨12, by decide⟩
  · exact ⟨8, by decide⟩
  · exact ⟨6, by decide⟩
  · exact ⟨4, by decide⟩
  · exact ⟨3, by decide⟩
  · exact ⟨2, by decide⟩
  · exact ⟨1, by decide⟩
def stepD (s : Int × Int) : D := .tup [.int s.1, .int s.2]
def stepsD (l : List (Int × Int)) : D := .lst (l.map stepD)
def planD (p : Plan) : D := .tup [stepsD p.hs, stepsD p.ts, .int p.cap, .int p.up, .bl p.anew]
def waneF (p : Plan) : List (Str × D) := [("head_steps", stepsD p.hs), ("tail_steps", stepsD p.ts), ("cap_at", .int p.cap), ("lift_by", .int p.up), ("begins", .bl p.anew)]
def waneD (K : PySem.W.Frag) (p : Plan) : D := .obj (He.ga K "Wane") (waneF p)
def Plan.phase (p : Plan) (n : Int) : Int := if n < p.hs.length + p.ts.length then n else p.hs.length + (n - p.hs.length) % p.ts.length
def Plan.coming (p : Plan) (n : Int) : Int × Int := if n < p.hs.length then p.hs.getD n.toNat (1, 0) else p.ts.getD ((n - p.hs.length) % p.ts.length).toNat (1, 0)
theorem look_hs (p : Plan) : (waneF p).lookup ("head_steps" : Str) = some (stepsD p.hs) := rfl
theorem look_ts (p : Plan) : (waneF p).lookup ("tail_steps" : Str) = some (stepsD p.ts) := by
  unfold waneF
  rw [List.lookup_cons, show (("tail_steps" : Str) == "head_steps") = false by decide +kernel, List.lookup_cons, show (("tail_steps" : Str) == "tail_steps") = true by decide +kernel]
theorem look_cap (p : Plan) : (waneF p).lookup ("cap_at" : Str) = some (.int p.cap) := by
  unfold waneF
  rw [List.lookup_cons, show (("cap_at" : Str) == "head_steps") = false by decide +kernel, List.lookup_cons, show (("cap_at" : Str) == "tail_steps") = false by decide +kernel, List.lookup_cons, show (("cap_at" : Str) == "cap_at") = true by decide +kernel]
theorem look_up (p : Plan) : (waneF p).lookup ("lift_by" : Str) = some (.int p.up) := by
  unfold waneF
  rw [List.lookup_cons, show (("lift_by" : Str) == "head_steps") = false by decide +kernel, List.lookup_cons, show (("lift_by" : Str) == "tail_steps") = false by decide +kernel, List.lookup_cons, show (("lift_by" : Str) == "cap_at") = false by decide +kernel, List.lookup_cons, show (("lift_by" : Str) == "lift_by") = true by decide +kernel]
theorem look_anew (p : Plan) : (waneF p).lookup ("begins" : Str) = some (.bl p.anew) := by
  unfold waneF
  rw [List.lookup_cons, show (("begins" : Str) == "head_steps") = false by decide +kernel, List.lookup_cons, show (("begins" : Str) == "tail_steps") = false by decide +kernel, List.lookup_cons, show (("begins" : Str) == "cap_at") = false by decide +kernel, List.lookup_cons, show (("begins" : Str) == "lift_by") = false by decide +kernel, List.lookup_cons, show (("begins" : Str) == "begins") = true by decide +kernel]
theorem noKey {fs : List (Str × D)} {ks : List Str} {nm : Str} (e : fs.map (·.1) = ks) (h : nm ∉ ks) : ∀ p ∈ fs, p.1 ≠ nm := fun p hp z => h (by rw [← e, ← z]; exact List.mem_map_of_mem hp)
/-! plain, fit -/
theorem oks_iff {n : Nat} : ∀ {xs : List D}, (∀ x ∈ xs, D.ok n x = true) → D.oks n xs = true
  | [], _ => by simp [D.oks]
  | x :: xs, h => by simp [D.oks, h x (by simp), oks_iff (xs := xs) fun y hy => h y (by simp [hy])]
theorem lg2 {i : Int} (h : -(10 ^ 60) ≤ i ∧ i ≤ 10 ^ 60) : i.natAbs.log2 < 1920 := by
  have h1 : i.natAbs < 2 ^ 200 := by
    have h2 : ((i.natAbs : Nat) : Int) ≤ 10 ^ 60 := by omega
    have h3 : ((i.natAbs : Nat) : Int) < 2 ^ 200 := Int.lt_of_le_of_lt h2 (by decide)
    exact_mod_cast h3
  by_cases hz : i.natAbs = 0
  · rw [hz]; decide
  · have := (Nat.log2_lt hz).mpr h1
    omega
theorem ok_int {n : Nat} {i : Int} (h : -(10 ^ 60) ≤ i ∧ i ≤ 10 ^ 60) : D.ok n (.int i) = true := by
  have := lg2 h
  cases n <;> simpa [D.ok] using this
theorem stepD_ok {s : Int × Int} (h : StepOk s) (n : Nat) : D.ok (n + 1) (stepD s) = true := by
  obtain ⟨h1, h2, h3, h4⟩ := h
  show D.oks n [.int s.1, .int s.2] = true
  exact oks_iff fun x hx => by
    simp only [List.mem_cons, List.not_mem_nil, or_false] at hx
    rcases hx with rfl | rfl
    · exact ok_int ⟨by omega, by omega⟩
    · exact ok_int ⟨by omega, by omega⟩
theorem stepsD_ok {l : List (Int × Int)} (h : ∀ s ∈ l, StepOk s) (n : Nat) : D.ok (n + 2) (stepsD l) = true := by
  show D.oks (n + 1) (l.map stepD) = true
  exact oks_iff fun x hx => by
    obtain ⟨s, hs, rfl⟩ := List.mem_map.mp hx
    exact stepD_ok (h s hs) n
theorem stepB_ok {s : Int × Int} (h : StepOk s) : stepB (stepD s) = true := by
  obtain ⟨h1, h2, h3, h4⟩ := h
  show (decide (1 ≤ s.1 ∧ s.1 ≤ 9) && decide (0 ≤ s.2 ∧ s.2 ≤ 10 ^ 9)) = true
  rw [decide_eq_true ⟨h1, h2⟩, decide_eq_true ⟨h3, h4⟩]
  rfl
theorem steps_all_ok {l : List (Int × Int)} (h : ∀ s ∈ l, StepOk s) : (l.map stepD).all stepB = true := by
  rw [List.all_eq_true]
  intro x hx
  obtain ⟨s, hs, rfl⟩ := List.mem_map.mp hx
  exact stepB_ok (h s hs)
theorem head_ok {p : Plan} (h : p.Ok) : headB (stepsD p.hs) = true := by
  show (decide ((p.hs.map stepD).length ≤ 24) && (p.hs.map stepD).all stepB) = true
  rw [steps_all_ok h.hok, List.length_map, decide_eq_true h.hl]
  rfl
theorem tail_ok {p : Plan} (h : p.Ok) : tailB (stepsD p.ts) = true := by
  show (decide ((p.ts.map stepD).length ∈ [1, 2, 3, 4, 6, 8, 12, 24]) && (p.ts.map stepD).all stepB) = true
  rw [steps_all_ok h.tok, List.length_map, decide_eq_true h.tl]
  rfl
theorem wts_le {k : Nat} : ∀ {xs : List D}, (∀ x ∈ xs, x.wt ≤ k) → D.wts xs ≤ (k + 1) * xs.length
  | [], _ => by simp [D.wts]
  | x :: xs, h => by
    have h1 := h x (by simp)
    have h2 := wts_le (xs := xs) fun y hy => h y (by simp [hy])
    simp only [D.wts, List.length_cons, Nat.mul_succ]
    omega
theorem step_wt (s : Int × Int) : (stepD s).wt = 2 := by simp [stepD, D.wt, D.wts]
theorem steps_wt (l : List (Int × Int)) : (stepsD l).wt ≤ 3 * l.length := by
  have := wts_le (k := 2) (xs := l.map stepD) fun x hx => by
    obtain ⟨s, _, rfl⟩ := List.mem_map.mp hx
    exact Nat.le_of_eq (step_wt s)
  rw [List.length_map] at this
  exact this
theorem fit_int {i : Int} (h : -(10 ^ 60) ≤ i ∧ i ≤ 10 ^ 60) : Fit (.int i) := ⟨ok_int h, by simp [D.wt]⟩
theorem fit_step {s : Int × Int} (h : StepOk s) : Fit (stepD s) := ⟨stepD_ok h 29, by rw [step_wt]; decide⟩
theorem coming_ok {p : Plan} (h : p.Ok) (n : Int) : StepOk (p.coming n) := by
  have d : StepOk (1, 0) := ⟨by decide, by decide, by decide, by decide⟩
  have key : ∀ (l : List (Int × Int)) (k : Nat), (∀ s ∈ l, StepOk s) → StepOk (l.getD k (1, 0)) := fun l k hl => by
    rw [List.getD_eq_getElem?_getD]
    cases e : l[k]? with
    | none => exact d
    | some s => exact hl s (List.mem_of_getElem? e)
  unfold Plan.coming
  split
  · exact key _ _ h.hok
  · exact key _ _ h.tok
/-! ### contracts -/
def F_Wane_init : FInit := fun ds Φ _ => ∃ p : Plan, ds = [stepsD p.hs, stepsD p.ts, .int p.cap, .int p.up, .bl p.anew] ∧ p.Ok ∧ Φ (waneF p)
def F_l_wane (K : PySem.W.Frag) : FSpec := fun ds Φ _ => ∃ p : Plan, ds = [planD p] ∧ p.Ok ∧ Φ (waneD K p)
def F_Wane_phase_of (K : PySem.W.Frag) : FSpec := fun ds Φ _ => ∃ (p : Plan) (n : Int), ds = [waneD K p, .int n] ∧ (p.Ok ∧ 0 ≤ n) ∧ Φ (.int (p.phase n))
def F_Wane_phase (K : PySem.W.Frag) : FSpec := fun ds Φ _ => ∃ (p : Plan) (n : Int), ds = [waneD K p, .int n] ∧ (p.Ok ∧ 0 ≤ n ∧ n ≤ 10 ^ 30) ∧ Φ (.int (p.phase n))
def F_Wane_coming (K : PySem.W.Frag) : FSpec := fun ds Φ _ => ∃ (p : Plan) (n : Int), ds = [waneD K p, .int n] ∧ (p.Ok ∧ 0 ≤ n) ∧ Φ (stepD (p.coming n))
def F_Wane_step (K : PySem.W.Frag) : FSpec := fun ds Φ _ => ∃ (p : Plan) (n : Int), ds = [waneD K p, .int n] ∧ (p.Ok ∧ 1 ≤ n ∧ n ≤ 10 ^ 30) ∧ Φ (stepD (p.coming (n - 1)))
def F_Wane_head (K : PySem.W.Frag) : FSpec := fun ds Φ _ => ∃ (p : Plan), ds = [waneD K p] ∧ p.Ok ∧ Φ (stepsD p.hs)
def F_Wane_tail (K : PySem.W.Frag) : FSpec := fun ds Φ _ => ∃ (p : Plan), ds = [waneD K p] ∧ p.Ok ∧ Φ (stepsD p.ts)
def F_Wane_cap (K : PySem.W.Frag) : FSpec := fun ds Φ _ => ∃ (p : Plan), ds = [waneD K p] ∧ p.Ok ∧ Φ (.int p.cap)
def F_Wane_lift (K : PySem.W.Frag) : FSpec := fun ds Φ _ => ∃ (p : Plan), ds = [waneD K p] ∧ p.Ok ∧ Φ (.int p.up)
def F_Wane_is_anew (K : PySem.W.Frag) : FSpec := fun ds Φ _ => ∃ (p : Plan), ds = [waneD K p] ∧ p.Ok ∧ Φ (.bl p.anew)
def F_l_alike (_ : PySem.W.Frag) : FSpec := fun ds Φ _ => ∃ d, ds = [d, d] ∧ Fit d ∧ Φ (.bl true)
def F_l_steps (B : Bg) : FSpec := fun ds Φ _ => ∃ m c : Int, ds = [.adr B.b, .int m, .int c] ∧ (0 ≤ m ∧ m ≤ 24 ∧ 0 ≤ c ∧ c ≤ 10 ^ 9) ∧ ∀ l : List (Int × Int), (l.length : Int) = m → (∀ s ∈ l, StepOk s) → Φ (stepsD l)
def F_l_plan (B : Bg) : FSpec := fun ds Φ _ => ds = [.adr B.b] ∧ ∀ p : Plan, p.Ok → Φ (planD p)
def F_l_since (B : Bg) : FSpec := fun ds Φ _ => ∃ p : Plan, ds = [.adr B.b, planD p] ∧ p.Ok ∧ ∀ v : Int, 0 ≤ v → v ≤ 10 ^ 30 → Φ (.int v)
def t_Wane_init (K : PySem.W.Frag) (E : XK) : TS :=
    (tSeq (tIfS (tNot (tB (tCl 1 0 (lift K pureM (F_is_head K)) gvAll E (tCons (tVar 1) tNil) tNil)))
     tNever
     tNext)
    (tSeq (tIfS (tNot (tB (tCl 1 0 (lift K pureM (F_is_tail K)) gvAll E (tCons (tVar 2) tNil) tNil)))
     tNever
     tNext)
    (tSeq (tIfS (tNot (tB (tCl 1 0 (lift K pureM (F_is_strength K)) gvAll E (tCons (tVar 3) tNil) tNil)))
     tNever
     tNext)
    (tSeq (tIfS (tNot (tB (tCl 1 0 (lift K pureM (F_is_size K)) gvAll E (tCons (tVar 4) tNil) tNil)))
     tNever
     tNext)
    (tSeq (tIfS (tNot (tB (tCB (rIsi K) (tCons (tVar 5) (tCons (tC (.ty "bool")) tNil)))))
     tNever
     tNext)
    (tSeq (sFld K (tVar 0) (tCB (rListU K) (tCons (tVar 1) tNil)) "head_steps")
    (tSeq (sFld K (tVar 0) (tCB (rListU K) (tCons (tVar 2) tNil)) "tail_steps")
    (tSeq (sFld K (tVar 0) (tVar 3) "cap_at")
    (tSeq (sFld K (tVar 0) (tVar 4) "lift_by")
    (sFld K (tVar 0) (tVar 5) "begins"))))))))))
theorem b_never {C : Ctx} {δ : List Sl} {P : DE} {tt : TT} {u : TS} (h : EvT C tt δ fun b => b = false ∧ Blk C u δ P) : Blk C (tIfS tt tNever u) δ P := b_ifF h
theorem plen {f : Str} {v : D} : ∀ {fs : List (Str × D)} {n : Nat}, fs.length ≤ n → (putD f v fs).length ≤ n + 1
  | [], n, _ => Nat.le_add_left 1 n
  | (g, x) :: r, n, h => by
    unfold putD
    split
    · exact Nat.le_succ_of_le h
    · cases n with
      | zero => cases h
      | succ n => exact Nat.succ_le_succ (plen (Nat.le_of_succ_le_succ h))
theorem len0 : ([] : List (Str × D)).length ≤ 0 := Nat.le_refl 0
structure WaneK (K : PySem.W.Frag) : Prop where
  cl : Cls K (He.ga K "Wane")
  n1 : NoAttr K (He.ga K "Wane") "head_steps"
  n2 : NoAttr K (He.ga K "Wane") "tail_steps"
  n3 : NoAttr K (He.ga K "Wane") "cap_at"
  n4 : NoAttr K (He.ga K "Wane") "lift_by"
  n5 : NoAttr K (He.ga K "Wane") "begins"
theorem pure_Wane_init {K : PySem.W.Frag} (W : WaneK K) {vs : List V} {H : Hp} {Q : VK} {E : XK} (h : spInit K (He.ga K "Wane") F_Wane_init vs H Q E) : t_Wane_init K E { nx := fun _ H' => Q .non H', rt := Q } (L2.start ["self", "head", "tail", "cap", "lift", "anew"] vs) H :=
  init_of (t := t_Wane_init K) (by decide) (fun C x ds Φ hK hm hE hn ⟨p, e, ok, q⟩ => by
    subst hK hE e
    unfold t_Wane_init
    refine b_seq (b_never (et_not (et_b (ev_cl Sub.pure gAll (ea_cons (ev_var rfl (ea_nil (ea_nil ⟨rfl, rfl, _, rfl, ⟨_, stepsD_ok ok.hok 0⟩, ?_⟩))))))))
    rw [head_ok ok]
    refine ⟨_, rfl, rfl, b_next ?_⟩
    refine b_seq (b_never (et_not (et_b (ev_cl Sub.pure gAll (ea_cons (ev_var rfl (ea_nil (ea_nil ⟨rfl, rfl, _, rfl, ⟨_, stepsD_ok ok.tok 0⟩, ?_⟩))))))))
    rw [tail_ok ok]
    refine ⟨_, rfl, rfl, b_next ?_⟩
    refine b_seq (b_never (et_not (et_b (ev_cl Sub.pure gAll (ea_cons (ev_var rfl (ea_nil (ea_nil ⟨rfl, rfl, _, rfl, (by simp [D.tyn]), ?_⟩))))))))
    rw [show withinB (.int p.cap) 1 (10 ^ 9) = true from decide_eq_true ⟨ok.c1, ok.c2⟩]
    refine ⟨_, rfl, rfl, b_next ?_⟩
    refine b_seq (b_never (et_not (et_b (ev_cl Sub.pure gAll (ea_cons (ev_var rfl (ea_nil (ea_nil ⟨rfl, rfl, _, rfl, (by simp [D.tyn]), ?_⟩))))))))
    rw [show withinB (.int p.up) 0 (10 ^ 9) = true from decide_eq_true ⟨ok.u1, ok.u2⟩]
    refine ⟨_, rfl, rfl, b_next ?_⟩
    refine b_seq (b_never (et_not (et_b (ev_cb (ea_cons (ev_var rfl (ea_cons (ev_ty (ea_nil (rc_isB (by simp [D.tyn]) ⟨_, rfl, rfl, b_next ?_⟩))))))))))
    refine b_seq (b_fld rfl hm rfl W.cl W.n1 (by decide) (ev_new (en_list rfl (ea_cons (ev_var rfl (ea_nil ⟨_, .inl rfl, ?_⟩))))))
    refine b_seq (b_fld rfl hm rfl W.cl W.n2 (Nat.lt_of_le_of_lt (plen len0) (by decide)) (ev_new (en_list rfl (ea_cons (ev_var rfl (ea_nil ⟨_, .inl rfl, ?_⟩))))))
    refine b_seq (b_fld rfl hm rfl W.cl W.n3 (Nat.lt_of_le_of_lt (plen (plen len0)) (by decide)) (ev_var rfl ?_))
    refine b_seq (b_fld rfl hm rfl W.cl W.n4 (Nat.lt_of_le_of_lt (plen (plen (plen len0))) (by decide)) (ev_var rfl ?_))
    refine b_fld rfl hm rfl W.cl W.n5 (Nat.lt_of_le_of_lt (plen (plen (plen (plen len0)))) (by decide)) (ev_var rfl ?_)
    exact ⟨waneF p, by rfl, q⟩) h

section
variable {C : Ctx} {δ : List Sl} {ta : TE} {Φ : D → Prop}
theorem ev_hs (W : WaneK C.K) (h : EvD C ta δ fun o => ∃ p, o = waneD C.K p ∧ Φ (stepsD p.hs)) : EvD C (tFld C.K ta "head_steps") δ Φ := ev_fld W.cl W.n1 (h.mono fun o ⟨p, e, q⟩ => ⟨_, _, e, look_hs p, q⟩)
theorem ev_ts (W : WaneK C.K) (h : EvD C ta δ fun o => ∃ p, o = waneD C.K p ∧ Φ (stepsD p.ts)) : EvD C (tFld C.K ta "tail_steps") δ Φ := ev_fld W.cl W.n2 (h.mono fun o ⟨p, e, q⟩ => ⟨_, _, e, look_ts p, q⟩)
theorem ev_cap (W : WaneK C.K) (h : EvD C ta δ fun o => ∃ p, o = waneD C.K p ∧ Φ (.int p.cap)) : EvD C (tFld C.K ta "cap_at") δ Φ := ev_fld W.cl W.n3 (h.mono fun o ⟨p, e, q⟩ => ⟨_, _, e, look_cap p, q⟩)
theorem ev_up (W : WaneK C.K) (h : EvD C ta δ fun o => ∃ p, o = waneD C.K p ∧ Φ (.int p.up)) : EvD C (tFld C.K ta "lift_by") δ Φ := ev_fld W.cl W.n4 (h.mono fun o ⟨p, e, q⟩ => ⟨_, _, e, look_up p, q⟩)
theorem ev_anew (W : WaneK C.K) (h : EvD C ta δ fun o => ∃ p, o = waneD C.K p ∧ Φ (.bl p.anew)) : EvD C (tFld C.K ta "begins") δ Φ := ev_fld W.cl W.n5 (h.mono fun o ⟨p, e, q⟩ => ⟨_, _, e, look_anew p, q⟩)
theorem wane_noKey {p : Plan} {nm : Str} (h : nm ∉ (["head_steps", "tail_steps", "cap_at", "lift_by", "begins"] : List Str)) : ∀ q ∈ waneF p, q.1 ≠ nm := noKey rfl h
/-- w.m(..) of a wane -/
theorem ev_wm {K : PySem.W.Frag} {F : FSpec} {nm : Str} {n : Nat} {t : TA} (hK : K = C.K) (hnm : nm ∉ (["head_steps", "tail_steps", "cap_at", "lift_by", "begins"] : List Str)) (h : EvD C ta δ fun o => ∃ p, o = waneD C.K p ∧ EvA C t δ fun ds => ds.length = n ∧ F (o :: ds) Φ C.X) :
    EvD C (tMt (He.ga K "Wane") nm n (lift K pureM F) gvAll C.E ta t) δ Φ := by
  subst hK
  exact ev_mt Sub.pure gAll (h.mono fun o ⟨p, e, q⟩ => ⟨_, e, wane_noKey hnm, q⟩)
end
theorem stepsD_at {l : List (Int × Int)} {n : Nat} (h : n < l.length) : (l.map stepD)[n]? = some (stepD (l.getD n (1, 0))) := by
  rw [List.getElem?_map, List.getD_eq_getElem?_getD, List.getElem?_eq_getElem h]
  rfl
section
variable {K : PySem.W.Frag} {p : Plan} {l : List (Int × Int)} {Φ : D → Prop}
theorem rc_lenD (q : Φ (.int l.length)) : RC K (rLenU K) [stepsD l] Φ := rc_lenL (by rw [List.length_map]; exact q)
theorem rd_atD {i : Int} (h0 : 0 ≤ i) (h1 : i < l.length) (q : Φ (stepD (l.getD i.toNat (1, 0)))) : RD K (rIx K) (stepsD l) (.int i) Φ := rd_at h0 (stepsD_at (by omega)) q
theorem rd_p0 (q : Φ (stepsD p.hs)) : RD K (rIx K) (planD p) (.int 0) Φ := rd_ixT rfl q
theorem rd_p1 (q : Φ (stepsD p.ts)) : RD K (rIx K) (planD p) (.int 1) Φ := rd_ixT rfl q
theorem rd_p2 (q : Φ (.int p.cap)) : RD K (rIx K) (planD p) (.int 2) Φ := rd_ixT rfl q
theorem rd_p3 (q : Φ (.int p.up)) : RD K (rIx K) (planD p) (.int 3) Φ := rd_ixT rfl q
theorem rd_p4 (q : Φ (.bl p.anew)) : RD K (rIx K) (planD p) (.int 4) Φ := rd_ixT rfl q
end
local macro_rules | `(tactic| o_shape) => `(tactic| first | assumption | rfl | trivial | omega | decide)
local macro_rules | `(tactic| o_reads) => `(tactic| first | fail "no rule" | fail)
local macro_rules | `(tactic| o_reads) => `(tactic| first | refine ⟨by exact Nat.le_of_ble_eq_true rfl, ?_⟩ | fail)
local macro_rules | `(tactic| o_reads) => `(tactic| first | refine ⟨rfl, ?_⟩ | fail)
local macro_rules | `(tactic| o_reads) => `(tactic| first | refine ⟨_, _, rfl, ?_⟩ | fail)
local macro_rules | `(tactic| o_reads) => `(tactic| first | refine ⟨_, rfl, ?_⟩ | fail)
local macro_rules | `(tactic| o_reads) => `(tactic| first | refine ⟨⟨by first | decide | omega, by first | decide | omega⟩, ?_⟩ | fail)
local macro_rules | `(tactic| o_reads) => `(tactic| first | with_reducible refine eo_part ?_ | fail)
local macro_rules | `(tactic| o_reads) => `(tactic| first | with_reducible refine eo_none ?_ | fail)
local macro_rules | `(tactic| o_reads) => `(tactic| first | ((with_reducible refine ev_anew ?_ ?_); assumption) | fail)
local macro_rules | `(tactic| o_reads) => `(tactic| first | ((with_reducible refine ev_up ?_ ?_); assumption) | fail)
local macro_rules | `(tactic| o_reads) => `(tactic| first | ((with_reducible refine ev_cap ?_ ?_); assumption) | fail)
local macro_rules | `(tactic| o_reads) => `(tactic| first | ((with_reducible refine ev_ts ?_ ?_); assumption) | fail)
local macro_rules | `(tactic| o_reads) => `(tactic| first | ((with_reducible refine ev_hs ?_ ?_); assumption) | fail)
local macro_rules | `(tactic| o_reads) => `(tactic| first | (((with_reducible apply ev_clB (hg := gAll) (hK := rfl)); assumption); assumption) | fail)
local macro_rules | `(tactic| o_reads) => `(tactic| first | (((with_reducible apply ev_tk rfl); assumption); assumption) | fail)
local macro_rules | `(tactic| o_reads) => `(tactic| first | with_reducible refine ev_cl Sub.pure gAll ?_ | fail)
local macro_rules | `(tactic| o_reads) => `(tactic| first | ((with_reducible refine rc_isS ?_ ?_); first | assumption | (simp [D.tyn]; done) | (apply plainD.ty; assumption)) | fail)
local macro_rules | `(tactic| o_reads) => `(tactic| first | ((with_reducible refine rc_isT ?_ ?_); first | assumption | (simp [D.tyn]; done) | (apply plainD.ty; assumption)) | fail)
local macro_rules | `(tactic| o_reads) => `(tactic| first | ((with_reducible refine rc_isL ?_ ?_); first | assumption | (simp [D.tyn]; done) | (apply plainD.ty; assumption)) | fail)
local macro_rules | `(tactic| o_reads) => `(tactic| first | ((with_reducible refine rc_isB ?_ ?_); first | assumption | (simp [D.tyn]; done) | (apply plainD.ty; assumption)) | fail)
local macro_rules | `(tactic| o_reads) => `(tactic| first | ((with_reducible refine rc_isI ?_ ?_); first | assumption | (simp [D.tyn]; done) | (apply plainD.ty; assumption)) | fail)
local macro_rules | `(tactic| o_reads) => `(tactic| first | with_reducible refine rc_intB ?_ | fail)
local macro_rules | `(tactic| o_reads) => `(tactic| first | with_reducible refine rc_intI ?_ | fail)
local macro_rules | `(tactic| o_reads) => `(tactic| first | with_reducible refine rc_min ?_ | fail)
local macro_rules | `(tactic| o_reads) => `(tactic| first | with_reducible refine rc_max ?_ | fail)
local macro_rules | `(tactic| o_reads) => `(tactic| first | with_reducible refine rc_abs ?_ | fail)
local macro_rules | `(tactic| o_reads) => `(tactic| first | with_reducible refine rc_lenT ?_ | fail)
local macro_rules | `(tactic| o_reads) => `(tactic| first | with_reducible refine rc_lenL ?_ | fail)
local macro_rules | `(tactic| o_reads) => `(tactic| first | with_reducible refine rc_lenD ?_ | fail)
local macro_rules | `(tactic| o_reads) => `(tactic| first | with_reducible refine rd_notN ?_ | fail)
local macro_rules | `(tactic| o_reads) => `(tactic| first | with_reducible refine rd_isN ?_ | fail)
local macro_rules | `(tactic| o_reads) => `(tactic| first | ((with_reducible apply rd_ixL); exact rfl) | fail)
local macro_rules | `(tactic| o_reads) => `(tactic| first | ((with_reducible apply rd_ixT); exact rfl) | fail)
local macro_rules | `(tactic| o_reads) => `(tactic| first | (((with_reducible refine rd_atD ?_ ?_ ?_); (first | assumption | omega)); (first | assumption | omega)) | fail)
local macro_rules | `(tactic| o_reads) => `(tactic| first | with_reducible refine rd_p4 ?_ | fail)
local macro_rules | `(tactic| o_reads) => `(tactic| first | with_reducible refine rd_p3 ?_ | fail)
local macro_rules | `(tactic| o_reads) => `(tactic| first | with_reducible refine rd_p2 ?_ | fail)
local macro_rules | `(tactic| o_reads) => `(tactic| first | with_reducible refine rd_p1 ?_ | fail)
local macro_rules | `(tactic| o_reads) => `(tactic| first | with_reducible refine rd_p0 ?_ | fail)
local macro_rules | `(tactic| o_reads) => `(tactic| first | with_reducible refine ru_neg ?_ | fail)
local macro_rules | `(tactic| o_reads) => `(tactic| first | (((with_reducible refine rd_pow ?_ ?_); exact ⟨by decide, by decide, by decide⟩); dsimp only [Int.reduceToNat]) | fail)
local macro_rules | `(tactic| o_reads) => `(tactic| first | with_reducible refine rd_mul ?_ ?_ | fail)
local macro_rules | `(tactic| o_reads) => `(tactic| first | ((with_reducible refine rd_mul ?_ ?_); first | exact .inl ⟨by omega, by omega⟩ | exact .inr ⟨by omega, by omega⟩) | fail)
local macro_rules | `(tactic| o_reads) => `(tactic| first | with_reducible refine rd_div ?_ ?_ | fail)
local macro_rules | `(tactic| o_reads) => `(tactic| first | ((with_reducible refine rd_div ?_ ?_); exact ⟨by o_shape, by first | decide | (apply lg <;> omega)⟩) | fail)
local macro_rules | `(tactic| o_reads) => `(tactic| first | with_reducible refine rd_mod ?_ ?_ | fail)
local macro_rules | `(tactic| o_reads) => `(tactic| first | ((with_reducible refine rd_mod ?_ ?_); o_shape) | fail)
local macro_rules | `(tactic| o_reads) => `(tactic| first | with_reducible refine rd_ge ?_ | fail)
local macro_rules | `(tactic| o_reads) => `(tactic| first | with_reducible refine rd_gt ?_ | fail)
local macro_rules | `(tactic| o_reads) => `(tactic| first | with_reducible refine rd_le ?_ | fail)
local macro_rules | `(tactic| o_reads) => `(tactic| first | with_reducible refine rd_lt ?_ | fail)
local macro_rules | `(tactic| o_reads) => `(tactic| first | with_reducible refine rd_neS ?_ | fail)
local macro_rules | `(tactic| o_reads) => `(tactic| first | with_reducible refine rd_neI ?_ | fail)
local macro_rules | `(tactic| o_reads) => `(tactic| first | with_reducible refine rd_eqS ?_ | fail)
local macro_rules | `(tactic| o_reads) => `(tactic| first | with_reducible refine rd_eqB ?_ | fail)
local macro_rules | `(tactic| o_reads) => `(tactic| first | with_reducible refine rd_eqI ?_ | fail)
local macro_rules | `(tactic| o_reads) => `(tactic| first | with_reducible refine rd_sub ?_ | fail)
local macro_rules | `(tactic| o_reads) => `(tactic| first | with_reducible refine rd_addI ?_ | fail)
local macro_rules | `(tactic| o_reads) => `(tactic| first | with_reducible refine g_tup rfl ?_ | fail)
local macro_rules | `(tactic| o_reads) => `(tactic| first | with_reducible refine gs_nil ?_ | fail)
local macro_rules | `(tactic| o_reads) => `(tactic| first | with_reducible refine gs_cons ?_ | fail)
local macro_rules | `(tactic| o_reads) => `(tactic| first | with_reducible refine g_name ?_ | fail)
local macro_rules | `(tactic| o_reads) => `(tactic| first | with_reducible refine b_asgG ?_ | fail)
local macro_rules | `(tactic| o_reads) => `(tactic| first | ((with_reducible apply b_aug); exact rfl) | fail)
local macro_rules | `(tactic| o_reads) => `(tactic| first | with_reducible refine b_par ?_ | fail)
local macro_rules | `(tactic| o_reads) => `(tactic| first | with_reducible refine b_drop ?_ | fail)
local macro_rules | `(tactic| o_reads) => `(tactic| first | with_reducible refine b_cont ?_ | fail)
local macro_rules | `(tactic| o_reads) => `(tactic| first | with_reducible refine b_brk ?_ | fail)
local macro_rules | `(tactic| o_reads) => `(tactic| first | with_reducible refine b_retN ?_ | fail)
local macro_rules | `(tactic| o_reads) => `(tactic| first | with_reducible refine b_asg ?_ | fail)
local macro_rules | `(tactic| o_reads) => `(tactic| first | with_reducible refine b_next ?_ | fail)
local macro_rules | `(tactic| o_reads) => `(tactic| first | with_reducible refine b_ret ?_ | fail)
local macro_rules | `(tactic| o_reads) => `(tactic| first | with_reducible refine b_if ?_ | fail)
local macro_rules | `(tactic| o_reads) => `(tactic| first | with_reducible refine b_seq ?_ | fail)
local macro_rules | `(tactic| o_reads) => `(tactic| first | with_reducible refine ev_chain ?_ | fail)
local macro_rules | `(tactic| o_reads) => `(tactic| first | with_reducible refine ev_if ?_ | fail)
local macro_rules | `(tactic| o_reads) => `(tactic| first | with_reducible refine ev_notV ?_ | fail)
local macro_rules | `(tactic| o_reads) => `(tactic| first | with_reducible refine ev_orV ?_ | fail)
local macro_rules | `(tactic| o_reads) => `(tactic| first | with_reducible refine ev_andV ?_ | fail)
local macro_rules | `(tactic| o_reads) => `(tactic| first | with_reducible refine ev_lst ?_ | fail)
local macro_rules | `(tactic| o_reads) => `(tactic| first | with_reducible refine ev_tup ?_ | fail)
local macro_rules | `(tactic| o_reads) => `(tactic| first | with_reducible refine et_or ?_ | fail)
local macro_rules | `(tactic| o_reads) => `(tactic| first | with_reducible refine et_and ?_ | fail)
local macro_rules | `(tactic| o_reads) => `(tactic| first | with_reducible refine et_not ?_ | fail)
local macro_rules | `(tactic| o_reads) => `(tactic| first | with_reducible refine et_b ?_ | fail)
local macro_rules | `(tactic| o_reads) => `(tactic| first | with_reducible refine et_test ?_ | fail)
local macro_rules | `(tactic| o_reads) => `(tactic| first | with_reducible refine ev_cb ?_ | fail)
local macro_rules | `(tactic| o_reads) => `(tactic| first | with_reducible refine ev_un ?_ | fail)
local macro_rules | `(tactic| o_reads) => `(tactic| first | with_reducible refine ev_op ?_ | fail)
local macro_rules | `(tactic| o_reads) => `(tactic| first | with_reducible refine ea_cons ?_ | fail)
local macro_rules | `(tactic| o_reads) => `(tactic| first | with_reducible refine ea_nil ?_ | fail)
local macro_rules | `(tactic| o_reads) => `(tactic| first | with_reducible refine ev_ty ?_ | fail)
local macro_rules | `(tactic| o_reads) => `(tactic| first | with_reducible refine ev_non ?_ | fail)
local macro_rules | `(tactic| o_reads) => `(tactic| first | with_reducible refine ev_bl ?_ | fail)
local macro_rules | `(tactic| o_reads) => `(tactic| first | with_reducible refine ev_str ?_ | fail)
local macro_rules | `(tactic| o_reads) => `(tactic| first | with_reducible refine ev_int ?_ | fail)
local macro_rules | `(tactic| o_reads) => `(tactic| first | ((with_reducible apply ev_var); exact rfl) | fail)
local macro_rules | `(tactic| o_readsAll) => `(tactic| repeat' o_reads)
theorem stepsD_len (l : List (Int × Int)) : (l.map stepD).length = l.length := List.length_map ..
def gvKw : List V → List V → List V := fun vs zs => vs ++ zs
def gdKw : List D → List D → List D := fun ds es => ds ++ es
theorem gKw {K : PySem.W.Frag} : ∀ M H vs zs ds es, DtL K M H vs ds → DtL K M H zs es → DtL K M H (gvKw vs zs) (gdKw ds es) := fun M H vs zs ds es h g => h.append g
def t_l_wane (K : PySem.W.Frag) (E : XK) : TS :=
    (tSeq (tAsg (tVar 0) (gTup K 5 (gCons (gName 1) (gCons (gName 2) (gCons (gName 3) (gCons (gName 4) (gCons (gName 5) gNil)))))))
    (tRet (tMk (He.ga K "Wane") 2 3 (spInit K (He.ga K "Wane") F_Wane_init) gvKw E (tCons (tCB (rListU K) (tCons (tVar 1) tNil)) (tCons (tCB (rListU K) (tCons (tVar 2) tNil)) tNil)) (tCons (tVar 3) (tCons (tVar 4) (tCons (tVar 5) tNil))))))
theorem ev_wane {K : PySem.W.Frag} {C : Ctx} {δ : List Sl} {Φ : D → Prop} {t tk : TA} (hK : K = C.K) (hn : ¬ C.nw) (h : EvA C t δ fun ds => EvA C tk δ fun es => ∃ p : Plan, ds = [stepsD p.hs, stepsD p.ts] ∧ es = [.int p.cap, .int p.up, .bl p.anew] ∧ p.Ok ∧ Φ (waneD C.K p)) :
    EvD C (tMk (He.ga K "Wane") 2 3 (spInit K (He.ga K "Wane") F_Wane_init) gvKw C.E t tk) δ Φ := by
  subst hK
  refine ev_mk rfl hn (gR := gvKw) (gD := gdKw) (fun _ _ _ => rfl) gKw ?_
  exact fun fz M σ H en Q k => h fz M σ H en Q fun ds vs H' hq => k ds vs H' fun fz M σ H en Q k => hq fz M σ H en Q fun es vs H' ⟨p, e1, e2, ok, q⟩ => k es vs H' ⟨by rw [e1]; rfl, by rw [e2]; rfl, p, by rw [e1, e2]; rfl, ok, q⟩
theorem pure_l_wane {K : PySem.W.Frag} {vs : List V} {H : Hp} {Q : VK} {E : XK} (h : lift K pureM (F_l_wane K) vs H Q E) : t_l_wane K E { nx := fun _ H' => Q .non H', rt := Q } (L2.start ["_law_plan_here", "_law_head", "_law_tail", "_law_ceiling", "_law_lifting", "_law_afresh"] vs) H :=
  lift_of (t := t_l_wane K) (fun C ds Φ hK hm hE hn ⟨p, e, ok, q⟩ => by
    subst hK hE e
    unfold t_l_wane
    refine b_seq (b_asgG (ev_var rfl (g_tup rfl ⟨_, rfl, rfl, ?_⟩)))
    o_readsAll
    refine ev_wane rfl hn (ea_cons (ev_new (en_list rfl (ea_cons (ev_var rfl (ea_nil ⟨_, .inl rfl, ea_cons (ev_new (en_list rfl (ea_cons (ev_var rfl (ea_nil ⟨_, .inl rfl, ?_⟩)))))⟩))))))
    o_readsAll
    exact ⟨ok, q⟩) h
def t_Wane_phase_of (K : PySem.W.Frag) (E : XK) : TS :=
    (tSeq (tAsg (tCB (rLenU K) (tCons (tFld K (tVar 0) "head_steps") tNil)) (gName 2))
    (tSeq (tIfS (tTest (tOp rLtU (tVar 1) (tOp (rAddU K) (tVar 2) (tCB (rLenU K) (tCons (tFld K (tVar 0) "tail_steps") tNil)))))
     (tRet (tVar 1))
     tNext)
    (tRet (tOp (rAddU K) (tVar 2) (tOp rModU (tOp rSubU (tVar 1) (tVar 2)) (tCB (rLenU K) (tCons (tFld K (tVar 0) "tail_steps") tNil)))))))
theorem pure_Wane_phase_of {K : PySem.W.Frag} (W : WaneK K) {vs : List V} {H : Hp} {Q : VK} {E : XK} (h : lift K pureM (F_Wane_phase_of K) vs H Q E) : t_Wane_phase_of K E { nx := fun _ H' => Q .non H', rt := Q } (L2.start ["self", "since", "long"] vs) H :=
  lift_of (t := t_Wane_phase_of K) (fun C ds Φ hK hm hE hn ⟨p, n, e, ⟨ok, hn0⟩, q⟩ => by
    subst hK hE e
    unfold t_Wane_phase_of
    have tp := ok.tpos
    unfold Plan.phase at q
    o_readsAll
    refine ⟨fun z => ?_, fun z => ?_⟩
    · have z := of_decide_eq_true z
      rw [if_pos z] at q
      o_readsAll
      exact q
    · have z := of_decide_eq_false z
      rw [if_neg z] at q
      o_readsAll
      exact q) h
def t_Wane_phase (K : PySem.W.Frag) (E : XK) : TS :=
    (tSeq (tIfS (tNot (tB (tCl 1 0 (lift K pureM (F_is_moment K)) gvAll E (tCons (tVar 1) tNil) tNil)))
     tNever
     tNext)
    (tRet (tMt (He.ga K "Wane") "phase_of" 1 (lift K pureM (F_Wane_phase_of K)) gvAll E (tVar 0) (tCons (tVar 1) tNil))))
theorem within_ok {i a b : Int} (h1 : a ≤ i) (h2 : i ≤ b) : withinB (.int i) a b = true := decide_eq_true ⟨h1, h2⟩
theorem pure_Wane_phase {K : PySem.W.Frag} {vs : List V} {H : Hp} {Q : VK} {E : XK} (h : lift K pureM (F_Wane_phase K) vs H Q E) : t_Wane_phase K E { nx := fun _ H' => Q .non H', rt := Q } (L2.start ["self", "since"] vs) H :=
  lift_of (t := t_Wane_phase K) (fun C ds Φ hK hm hE hn ⟨p, n, e, ⟨ok, h1, h2⟩, q⟩ => by
    subst hK hE e
    unfold t_Wane_phase
    refine b_seq (b_never ?_)
    o_readsAll
    refine ⟨by simp [D.tyn], ?_⟩
    rw [within_ok h1 h2]
    refine ⟨_, rfl, rfl, b_next (b_ret (ev_wm rfl (by decide +kernel) ?_))⟩
    o_readsAll
    exact q) h
def t_Wane_coming (K : PySem.W.Frag) (E : XK) : TS :=
    (tSeq (tAsg (tCB (rLenU K) (tCons (tFld K (tVar 0) "head_steps") tNil)) (gName 2))
    (tSeq (tIfS (tTest (tOp rLtU (tVar 1) (tVar 2)))
     (tRet (tOp (rIx K) (tFld K (tVar 0) "head_steps") (tVar 1)))
     tNext)
    (tRet (tOp (rIx K) (tFld K (tVar 0) "tail_steps") (tOp rModU (tOp rSubU (tVar 1) (tVar 2)) (tCB (rLenU K) (tCons (tFld K (tVar 0) "tail_steps") tNil)))))))
theorem pure_Wane_coming {K : PySem.W.Frag} (W : WaneK K) {vs : List V} {H : Hp} {Q : VK} {E : XK} (h : lift K pureM (F_Wane_coming K) vs H Q E) : t_Wane_coming K E { nx := fun _ H' => Q .non H', rt := Q } (L2.start ["self", "since", "long"] vs) H :=
  lift_of (t := t_Wane_coming K) (fun C ds Φ hK hm hE hn ⟨p, n, e, ⟨ok, hn0⟩, q⟩ => by
    subst hK hE e
    unfold t_Wane_coming
    have tp := ok.tpos
    unfold Plan.coming at q
    o_readsAll
    refine ⟨fun z => ?_, fun z => ?_⟩
    · have z := of_decide_eq_true z
      rw [if_pos z] at q
      o_readsAll
      exact q
    · have z := of_decide_eq_false z
      rw [if_neg z] at q
      o_readsAll
      have b1 : 0 ≤ (n - p.hs.length) % (p.ts.length : Int) := Int.emod_nonneg _ (by omega)
      have b2 : (n - p.hs.length) % (p.ts.length : Int) < p.ts.length := Int.emod_lt_of_pos _ (by omega)
      exact rd_atD b1 b2 q) h
def t_Wane_step (K : PySem.W.Frag) (E : XK) : TS :=
    (tSeq (tIfS (tOr (tNot (tB (tCl 1 0 (lift K pureM (F_is_moment K)) gvAll E (tCons (tVar 1) tNil) tNil))) (tTest (tOp (rEqU K) (tVar 1) (tC (.int 0)))))
     tNever
     tNext)
    (tRet (tMt (He.ga K "Wane") "coming" 1 (lift K pureM (F_Wane_coming K)) gvAll E (tVar 0) (tCons (tOp rSubU (tVar 1) (tC (.int 1))) tNil))))
theorem pure_Wane_step {K : PySem.W.Frag} {vs : List V} {H : Hp} {Q : VK} {E : XK} (h : lift K pureM (F_Wane_step K) vs H Q E) : t_Wane_step K E { nx := fun _ H' => Q .non H', rt := Q } (L2.start ["self", "number"] vs) H :=
  lift_of (t := t_Wane_step K) (fun C ds Φ hK hm hE hn ⟨p, n, e, ⟨ok, h1, h2⟩, q⟩ => by
    subst hK hE e
    unfold t_Wane_step
    refine b_seq (b_never ?_)
    o_readsAll
    refine ⟨by simp [D.tyn], ?_⟩
    rw [within_ok (by omega) h2]
    refine ⟨_, rfl, fun _ => ?_, fun z => (by cases z)⟩
    o_readsAll
    refine ⟨decide_eq_false (by omega), b_next (b_ret (ev_wm rfl (by decide +kernel) ?_))⟩
    o_readsAll
    exact q) h
def t_Wane_cap (K : PySem.W.Frag) (E : XK) : TS := (tRet (tFld K (tVar 0) "cap_at"))
def t_Wane_lift (K : PySem.W.Frag) (E : XK) : TS := (tRet (tFld K (tVar 0) "lift_by"))
def t_Wane_is_anew (K : PySem.W.Frag) (E : XK) : TS := (tRet (tFld K (tVar 0) "begins"))
def t_Wane_head (K : PySem.W.Frag) (E : XK) : TS := (tRet (tCB (rListU K) (tCons (tFld K (tVar 0) "head_steps") tNil)))
def t_Wane_tail (K : PySem.W.Frag) (E : XK) : TS := (tRet (tCB (rListU K) (tCons (tFld K (tVar 0) "tail_steps") tNil)))
theorem pure_Wane_cap {K : PySem.W.Frag} (W : WaneK K) {vs : List V} {H : Hp} {Q : VK} {E : XK} (h : lift K pureM (F_Wane_cap K) vs H Q E) : t_Wane_cap K E { nx := fun _ H' => Q .non H', rt := Q } (L2.start ["self"] vs) H :=
  lift_of (t := t_Wane_cap K) (fun C ds Φ hK hm hE hn ⟨p, e, ok, q⟩ => by
    subst hK hE e
    exact b_ret (ev_cap W (ev_var rfl ⟨p, rfl, q⟩))) h
theorem pure_Wane_lift {K : PySem.W.Frag} (W : WaneK K) {vs : List V} {H : Hp} {Q : VK} {E : XK} (h : lift K pureM (F_Wane_lift K) vs H Q E) : t_Wane_lift K E { nx := fun _ H' => Q .non H', rt := Q } (L2.start ["self"] vs) H :=
  lift_of (t := t_Wane_lift K) (fun C ds Φ hK hm hE hn ⟨p, e, ok, q⟩ => by
    subst hK hE e
    exact b_ret (ev_up W (ev_var rfl ⟨p, rfl, q⟩))) h
theorem pure_Wane_is_anew {K : PySem.W.Frag} (W : WaneK K) {vs : List V} {H : Hp} {Q : VK} {E : XK} (h : lift K pureM (F_Wane_is_anew K) vs H Q E) : t_Wane_is_anew K E { nx := fun _ H' => Q .non H', rt := Q } (L2.start ["self"] vs) H :=
  lift_of (t := t_Wane_is_anew K) (fun C ds Φ hK hm hE hn ⟨p, e, ok, q⟩ => by
    subst hK hE e
    exact b_ret (ev_anew W (ev_var rfl ⟨p, rfl, q⟩))) h
theorem pure_Wane_head {K : PySem.W.Frag} (W : WaneK K) {vs : List V} {H : Hp} {Q : VK} {E : XK} (h : lift K pureM (F_Wane_head K) vs H Q E) : t_Wane_head K E { nx := fun _ H' => Q .non H', rt := Q } (L2.start ["self"] vs) H :=
  lift_of (t := t_Wane_head K) (fun C ds Φ hK hm hE hn ⟨p, e, ok, q⟩ => by
    subst hK hE e
    exact b_ret (ev_new (en_list rfl (ea_cons (ev_hs W (ev_var rfl ⟨p, rfl, ea_nil ⟨_, .inl rfl, q⟩⟩)))))) h
theorem pure_Wane_tail {K : PySem.W.Frag} (W : WaneK K) {vs : List V} {H : Hp} {Q : VK} {E : XK} (h : lift K pureM (F_Wane_tail K) vs H Q E) : t_Wane_tail K E { nx := fun _ H' => Q .non H', rt := Q } (L2.start ["self"] vs) H :=
  lift_of (t := t_Wane_tail K) (fun C ds Φ hK hm hE hn ⟨p, e, ok, q⟩ => by
    subst hK hE e
    exact b_ret (ev_new (en_list rfl (ea_cons (ev_ts W (ev_var rfl ⟨p, rfl, ea_nil ⟨_, .inl rfl, q⟩⟩)))))) h
end Wn
end

section
/-! What a law draws. -/
namespace Wn
open PySem PySem.Spec PyProof.Rows L2
local macro_rules | `(tactic| o_shape) => `(tactic| first | assumption | rfl | trivial | omega | decide)
local macro_rules | `(tactic| o_reads) => `(tactic| first | fail "no rule" | fail)
local macro_rules | `(tactic| o_reads) => `(tactic| first | refine ⟨(by assumption : Plan.Ok _), ?_⟩ | fail)
local macro_rules | `(tactic| o_reads) => `(tactic| first | refine ⟨by exact Nat.le_of_ble_eq_true rfl, ?_⟩ | fail)
local macro_rules | `(tactic| o_reads) => `(tactic| first | refine ⟨rfl, ?_⟩ | fail)
local macro_rules | `(tactic| o_reads) => `(tactic| first | refine ⟨_, _, rfl, ?_⟩ | fail)
local macro_rules | `(tactic| o_reads) => `(tactic| first | refine ⟨_, rfl, ?_⟩ | fail)
local macro_rules | `(tactic| o_reads) => `(tactic| first | refine ⟨⟨by first | decide | omega, by first | decide | omega⟩, ?_⟩ | fail)
local macro_rules | `(tactic| o_reads) => `(tactic| first | with_reducible refine eo_part ?_ | fail)
local macro_rules | `(tactic| o_reads) => `(tactic| first | with_reducible refine eo_none ?_ | fail)
local macro_rules | `(tactic| o_reads) => `(tactic| first | ((with_reducible refine ev_wm rfl ?_ ?_); decide +kernel) | fail)
local macro_rules | `(tactic| o_reads) => `(tactic| first | ((with_reducible refine ev_anew ?_ ?_); assumption) | fail)
local macro_rules | `(tactic| o_reads) => `(tactic| first | ((with_reducible refine ev_up ?_ ?_); assumption) | fail)
local macro_rules | `(tactic| o_reads) => `(tactic| first | ((with_reducible refine ev_cap ?_ ?_); assumption) | fail)
local macro_rules | `(tactic| o_reads) => `(tactic| first | ((with_reducible refine ev_ts ?_ ?_); assumption) | fail)
local macro_rules | `(tactic| o_reads) => `(tactic| first | ((with_reducible refine ev_hs ?_ ?_); assumption) | fail)
local macro_rules | `(tactic| o_reads) => `(tactic| first | (((with_reducible apply ev_clB (hg := gAll) (hK := rfl)); assumption); assumption) | fail)
local macro_rules | `(tactic| o_reads) => `(tactic| first | (((with_reducible apply ev_tk rfl); assumption); assumption) | fail)
local macro_rules | `(tactic| o_reads) => `(tactic| first | with_reducible refine ev_cl Sub.pure gAll ?_ | fail)
local macro_rules | `(tactic| o_reads) => `(tactic| first | ((with_reducible refine rc_isS ?_ ?_); first | assumption | (simp [D.tyn]; done) | (apply plainD.ty; assumption)) | fail)
local macro_rules | `(tactic| o_reads) => `(tactic| first | ((with_reducible refine rc_isT ?_ ?_); first | assumption | (simp [D.tyn]; done) | (apply plainD.ty; assumption)) | fail)
local macro_rules | `(tactic| o_reads) => `(tactic| first | ((with_reducible refine rc_isL ?_ ?_); first | assumption | (simp [D.tyn]; done) | (apply plainD.ty; assumption)) | fail)
local macro_rules | `(tactic| o_reads) => `(tactic| first | ((with_reducible refine rc_isB ?_ ?_); first | assumption | (simp [D.tyn]; done) | (apply plainD.ty; assumption)) | fail)
local macro_rules | `(tactic| o_reads) => `(tactic| first | ((with_reducible refine rc_isI ?_ ?_); first | assumption | (simp [D.tyn]; done) | (apply plainD.ty; assumption)) | fail)
local macro_rules | `(tactic| o_reads) => `(tactic| first | with_reducible refine rc_intB ?_ | fail)
local macro_rules | `(tactic| o_reads) => `(tactic| first | with_reducible refine rc_intI ?_ | fail)
local macro_rules | `(tactic| o_reads) => `(tactic| first | with_reducible refine rc_min ?_ | fail)
local macro_rules | `(tactic| o_reads) => `(tactic| first | with_reducible refine rc_max ?_ | fail)
local macro_rules | `(tactic| o_reads) => `(tactic| first | with_reducible refine rc_abs ?_ | fail)
local macro_rules | `(tactic| o_reads) => `(tactic| first | with_reducible refine rc_lenT ?_ | fail)
local macro_rules | `(tactic| o_reads) => `(tactic| first | with_reducible refine rc_lenL ?_ | fail)
local macro_rules | `(tactic| o_reads) => `(tactic| first | with_reducible refine rc_lenD ?_ | fail)
local macro_rules | `(tactic| o_reads) => `(tactic| first | with_reducible refine rd_notN ?_ | fail)
local macro_rules | `(tactic| o_reads) => `(tactic| first | with_reducible refine rd_isN ?_ | fail)
local macro_rules | `(tactic| o_reads) => `(tactic| first | ((with_reducible apply rd_ixL); exact rfl) | fail)
local macro_rules | `(tactic| o_reads) => `(tactic| first | ((with_reducible apply rd_ixT); exact rfl) | fail)
local macro_rules | `(tactic| o_reads) => `(tactic| first | (((with_reducible refine rd_atD ?_ ?_ ?_); (first | assumption | omega)); (first | assumption | omega)) | fail)
local macro_rules | `(tactic| o_reads) => `(tactic| first | with_reducible refine rd_p4 ?_ | fail)
local macro_rules | `(tactic| o_reads) => `(tactic| first | with_reducible refine rd_p3 ?_ | fail)
local macro_rules | `(tactic| o_reads) => `(tactic| first | with_reducible refine rd_p2 ?_ | fail)
local macro_rules | `(tactic| o_reads) => `(tactic| first | with_reducible refine rd_p1 ?_ | fail)
local macro_rules | `(tactic| o_reads) => `(tactic| first | with_reducible refine rd_p0 ?_ | fail)
local macro_rules | `(tactic| o_reads) => `(tactic| first | with_reducible refine ru_neg ?_ | fail)
local macro_rules | `(tactic| o_reads) => `(tactic| first | (((with_reducible refine rd_pow ?_ ?_); exact ⟨by decide, by decide, by decide⟩); dsimp only [Int.reduceToNat]) | fail)
local macro_rules | `(tactic| o_reads) => `(tactic| first | with_reducible refine rd_mul ?_ ?_ | fail)
local macro_rules | `(tactic| o_reads) => `(tactic| first | ((with_reducible refine rd_mul ?_ ?_); first | exact .inl ⟨by omega, by omega⟩ | exact .inr ⟨by omega, by omega⟩) | fail)
local macro_rules | `(tactic| o_reads) => `(tactic| first | with_reducible refine rd_div ?_ ?_ | fail)
local macro_rules | `(tactic| o_reads) => `(tactic| first | ((with_reducible refine rd_div ?_ ?_); exact ⟨by o_shape, by first | decide | (apply lg <;> omega)⟩) | fail)
local macro_rules | `(tactic| o_reads) => `(tactic| first | with_reducible refine rd_mod ?_ ?_ | fail)
local macro_rules | `(tactic| o_reads) => `(tactic| first | ((with_reducible refine rd_mod ?_ ?_); o_shape) | fail)
local macro_rules | `(tactic| o_reads) => `(tactic| first | with_reducible refine rd_ge ?_ | fail)
local macro_rules | `(tactic| o_reads) => `(tactic| first | with_reducible refine rd_gt ?_ | fail)
local macro_rules | `(tactic| o_reads) => `(tactic| first | with_reducible refine rd_le ?_ | fail)
local macro_rules | `(tactic| o_reads) => `(tactic| first | with_reducible refine rd_lt ?_ | fail)
local macro_rules | `(tactic| o_reads) => `(tactic| first | with_reducible refine rd_neS ?_ | fail)
local macro_rules | `(tactic| o_reads) => `(tactic| first | with_reducible refine rd_neI ?_ | fail)
local macro_rules | `(tactic| o_reads) => `(tactic| first | with_reducible refine rd_eqS ?_ | fail)
local macro_rules | `(tactic| o_reads) => `(tactic| first | with_reducible refine rd_eqB ?_ | fail)
local macro_rules | `(tactic| o_reads) => `(tactic| first | with_reducible refine rd_eqI ?_ | fail)
local macro_rules | `(tactic| o_reads) => `(tactic| first | with_reducible refine rd_sub ?_ | fail)
local macro_rules | `(tactic| o_reads) => `(tactic| first | with_reducible refine rd_addI ?_ | fail)
local macro_rules | `(tactic| o_reads) => `(tactic| first | with_reducible refine g_tup rfl ?_ | fail)
local macro_rules | `(tactic| o_reads) => `(tactic| first | with_reducible refine gs_nil ?_ | fail)
local macro_rules | `(tactic| o_reads) => `(tactic| first | with_reducible refine gs_cons ?_ | fail)
local macro_rules | `(tactic| o_reads) => `(tactic| first | with_reducible refine g_name ?_ | fail)
local macro_rules | `(tactic| o_reads) => `(tactic| first | with_reducible refine b_asgG ?_ | fail)
local macro_rules | `(tactic| o_reads) => `(tactic| first | ((with_reducible apply b_aug); exact rfl) | fail)
local macro_rules | `(tactic| o_reads) => `(tactic| first | with_reducible refine b_par ?_ | fail)
local macro_rules | `(tactic| o_reads) => `(tactic| first | with_reducible refine b_drop ?_ | fail)
local macro_rules | `(tactic| o_reads) => `(tactic| first | with_reducible refine b_cont ?_ | fail)
local macro_rules | `(tactic| o_reads) => `(tactic| first | with_reducible refine b_brk ?_ | fail)
local macro_rules | `(tactic| o_reads) => `(tactic| first | with_reducible refine b_retN ?_ | fail)
local macro_rules | `(tactic| o_reads) => `(tactic| first | with_reducible refine b_asg ?_ | fail)
local macro_rules | `(tactic| o_reads) => `(tactic| first | with_reducible refine b_next ?_ | fail)
local macro_rules | `(tactic| o_reads) => `(tactic| first | with_reducible refine b_ret ?_ | fail)
local macro_rules | `(tactic| o_reads) => `(tactic| first | with_reducible refine b_if ?_ | fail)
local macro_rules | `(tactic| o_reads) => `(tactic| first | with_reducible refine b_seq ?_ | fail)
local macro_rules | `(tactic| o_reads) => `(tactic| first | with_reducible refine ev_chain ?_ | fail)
local macro_rules | `(tactic| o_reads) => `(tactic| first | with_reducible refine ev_if ?_ | fail)
local macro_rules | `(tactic| o_reads) => `(tactic| first | with_reducible refine ev_notV ?_ | fail)
local macro_rules | `(tactic| o_reads) => `(tactic| first | with_reducible refine ev_orV ?_ | fail)
local macro_rules | `(tactic| o_reads) => `(tactic| first | with_reducible refine ev_andV ?_ | fail)
local macro_rules | `(tactic| o_reads) => `(tactic| first | with_reducible refine ev_lst ?_ | fail)
local macro_rules | `(tactic| o_reads) => `(tactic| first | with_reducible refine ev_tup ?_ | fail)
local macro_rules | `(tactic| o_reads) => `(tactic| first | with_reducible refine et_or ?_ | fail)
local macro_rules | `(tactic| o_reads) => `(tactic| first | with_reducible refine et_and ?_ | fail)
local macro_rules | `(tactic| o_reads) => `(tactic| first | with_reducible refine et_not ?_ | fail)
local macro_rules | `(tactic| o_reads) => `(tactic| first | with_reducible refine et_b ?_ | fail)
local macro_rules | `(tactic| o_reads) => `(tactic| first | with_reducible refine et_test ?_ | fail)
local macro_rules | `(tactic| o_reads) => `(tactic| first | with_reducible refine ev_cb ?_ | fail)
local macro_rules | `(tactic| o_reads) => `(tactic| first | with_reducible refine ev_un ?_ | fail)
local macro_rules | `(tactic| o_reads) => `(tactic| first | with_reducible refine ev_op ?_ | fail)
local macro_rules | `(tactic| o_reads) => `(tactic| first | with_reducible refine ea_cons ?_ | fail)
local macro_rules | `(tactic| o_reads) => `(tactic| first | with_reducible refine ea_nil ?_ | fail)
local macro_rules | `(tactic| o_reads) => `(tactic| first | with_reducible refine ev_ty ?_ | fail)
local macro_rules | `(tactic| o_reads) => `(tactic| first | with_reducible refine ev_non ?_ | fail)
local macro_rules | `(tactic| o_reads) => `(tactic| first | with_reducible refine ev_bl ?_ | fail)
local macro_rules | `(tactic| o_reads) => `(tactic| first | with_reducible refine ev_str ?_ | fail)
local macro_rules | `(tactic| o_reads) => `(tactic| first | with_reducible refine ev_int ?_ | fail)
local macro_rules | `(tactic| o_reads) => `(tactic| first | ((with_reducible apply ev_var); exact rfl) | fail)
local macro_rules | `(tactic| o_readsAll) => `(tactic| repeat' o_reads)
def t_l_alike (K : PySem.W.Frag) (E : XK) : TS :=
    (tRet (tAndV (tOp (rEqU K) (tVar 0) (tVar 1)) (tOp (rEqU K) (tCB (rReprU K) (tCons (tVar 0) tNil)) (tCB (rReprU K) (tCons (tVar 1) tNil)))))
theorem pure_l_alike {K : PySem.W.Frag} {vs : List V} {H : Hp} {Q : VK} {E : XK} (h : lift K pureM (F_l_alike K) vs H Q E) : t_l_alike K E { nx := fun _ H' => Q .non H', rt := Q } (L2.start ["_law_found", "_law_due"] vs) H :=
  lift_of (t := t_l_alike K) (fun C ds Φ hK hm hE hn ⟨d, e, ft, q⟩ => by
    subst hK hE e
    unfold t_l_alike
    refine b_ret (ev_andV (ev_op (ev_var rfl (ev_var rfl (rd_same ft ⟨_, rfl, fun _ => ?_, fun z => (by cases z)⟩)))))
    refine ev_op (ev_cb (ea_cons (ev_var rfl (ea_nil (rc_repr ft ?_)))))
    refine ev_cb (ea_cons (ev_var rfl (ea_nil (rc_repr ft (rd_eqS ?_)))))
    rw [decide_eq_true rfl]
    exact q) h
def t_l_steps (K : PySem.W.Frag) (E : XK) : TS :=
    (tSeq (tAsg (tLst tNil) (gName 3))
    (tSeq (tFor (iRng1 (tCons (tVar 1) tNil)) (gName 4)
     (tSeq (tAsg (tOp (rIx K) (tLst (tCons (tC (.int 1)) (tCons (tC (.int 1)) (tCons (tC (.int 1)) (tCons (tOp (rAddU K) (tC (.int 1)) (tCl 2 0 (liftB K F_l_take) gvAll E (tCons (tVar 0) (tCons (tC (.int 9)) tNil)) tNil)) tNil))))) (tCl 2 0 (liftB K F_l_take) gvAll E (tCons (tVar 0) (tCons (tC (.int 4)) tNil)) tNil)) (gName 5))
      (tSeq (tAsg (tLst (tCons (tC (.int 0)) (tCons (tC (.int 0)) (tCons (tC (.int 1)) (tCons (tCl 2 0 (liftB K F_l_take) gvAll E (tCons (tVar 0) (tCons (tOp (rAddU K) (tC (.int 1)) (tOp rDivU (tVar 2) (tC (.int 9)))) tNil)) tNil) (tCons (tCl 2 0 (liftB K F_l_take) gvAll E (tCons (tVar 0) (tCons (tOp (rAddU K) (tOp rPowU (tC (.int 10)) (tC (.int 9))) (tC (.int 1))) tNil)) tNil) tNil)))))) (gName 6))
      (tDrop (tBM K "list" rAppend (tVar 3) (tCons (tTup (tCons (tVar 5) (tCons (tOp (rIx K) (tVar 6) (tOp rDivU (tCl 2 0 (liftB K F_l_take) gvAll E (tCons (tVar 0) (tCons (tC (.int 9)) tNil)) tNil) (tC (.int 2)))) tNil))) tNil))))))
    (tRet (tVar 3))))
theorem pure_l_steps {K : PySem.W.Frag} {vs : List V} {H : Hp} {Q : VK} {E : XK} (h : liftB K F_l_steps vs H Q E) : t_l_steps K E { nx := fun _ H' => Q .non H', rt := Q } (L2.start ["_law_bag_here", "_law_many", "_law_ceiling", "_law_found", "_law_k", "_law_by", "_law_some"] vs) H := by
  obtain ⟨B, h⟩ := h
  exact lift_of (t := t_l_steps K) (fun C ds Φ hK hm hE hn ⟨m, c, e, ⟨h1, h2, h3, h4⟩, q⟩ => by
    subst hK hE e
    unfold t_l_steps
    refine b_seq (b_own (en_lst (ea_nil ⟨by decide, ?_⟩)))
    refine b_seq (b_forR (fun k δ => ∃ (l : List (Int × Int)) (x4 x5 x6 : Sl), δ = [.d (.adr B.b), .d (.int m), .d (.int c), .own (l.map stepD), x4, x5, x6] ∧ l.length = k ∧ ∀ s ∈ l, StepOk s) (ea_cons (ev_var rfl (ea_nil rfl))) ⟨by omega, by omega⟩ ⟨[], .no, .no, .no, rfl, rfl, fun s hs => (by cases hs)⟩ ?_ ?_)
    · rintro k δ hk ⟨l, x4, x5, x6, rfl, hl, hs⟩
      refine b_seq (b_asg (EvD.mono (Φ := fun d => ∃ v : Int, d = .int v ∧ 1 ≤ v ∧ v ≤ 9) ?_ fun d ⟨v, e, v1, v2⟩ => ?_))
      · o_readsAll
        intro v v1 v2
        o_readsAll
        intro w w1 w2
        o_readsAll
        refine rd_pick w1 w2 fun d hd => ?_
        simp only [List.mem_cons, List.not_mem_nil, or_false] at hd
        rcases hd with rfl | rfl | rfl | rfl
        · exact ⟨_, rfl, by omega, by omega⟩
        · exact ⟨_, rfl, by omega, by omega⟩
        · exact ⟨_, rfl, by omega, by omega⟩
        · exact ⟨_, rfl, by omega, by omega⟩
      · subst e
        refine b_seq (b_asg (EvD.mono (Φ := fun d => ∃ a b : Int, d = .lst [.int 0, .int 0, .int 1, .int a, .int b] ∧ (0 ≤ a ∧ a ≤ 10 ^ 9) ∧ 0 ≤ b ∧ b ≤ 10 ^ 9) ?_ fun d ⟨a, b, e, ha, hb⟩ => ?_))
        · o_readsAll
          intro a a1 a2
          o_readsAll
          intro b b1 b2
          o_readsAll
          exact ⟨b1, by omega⟩
        · subst e
          refine b_app rfl rfl ?_
          refine EvD.mono (Φ := fun d => ∃ s, d = stepD s ∧ StepOk s) ?_ fun d ⟨s, e, so⟩ => ?_
          · o_readsAll
            intro u u1 u2
            o_readsAll
            refine rd_pick (by omega) (by simp only [List.length_cons, List.length_nil]; omega) fun d hd => ?_
            simp only [List.mem_cons, List.not_mem_nil, or_false] at hd
            rcases hd with rfl | rfl | rfl | rfl | rfl <;> refine ea_nil ⟨Nat.le_of_ble_eq_true rfl, (v, _), rfl, ⟨v1, v2, ?_, ?_⟩⟩ <;> first | omega | decide
          · subst e
            refine ⟨by rw [List.length_map]; omega, l ++ [s], .d (.int k), .d (.int v), .d (.lst [.int 0, .int 0, .int 1, .int a, .int b]), by rw [List.map_append]; rfl, ?_, ?_⟩
            · simp [hl]
            · intro z hz
              rcases List.mem_append.mp hz with hz | hz
              · exact hs z hz
              · simp at hz; rw [hz]; exact so
    · rintro δ ⟨l, x4, x5, x6, rfl, hl, hs⟩
      refine b_retO rfl (q l (by omega) hs)) h
def t_l_plan (K : PySem.W.Frag) (E : XK) : TS :=
    (tSeq (tAsg (tLst (tCons (tOp (rAddU K) (tC (.int 1)) (tCl 2 0 (liftB K F_l_take) gvAll E (tCons (tVar 0) (tCons (tC (.int 9)) tNil)) tNil)) (tCons (tOp (rAddU K) (tC (.int 20)) (tCl 2 0 (liftB K F_l_take) gvAll E (tCons (tVar 0) (tCons (tC (.int 80)) tNil)) tNil)) (tCons (tOp (rAddU K) (tC (.int 1)) (tCl 2 0 (liftB K F_l_take) gvAll E (tCons (tVar 0) (tCons (tOp rPowU (tC (.int 10)) (tC (.int 9))) tNil)) tNil)) (tCons (tOp rPowU (tC (.int 10)) (tC (.int 9))) tNil))))) (gName 1))
    (tSeq (tAsg (tOp (rIx K) (tVar 1) (tCl 2 0 (liftB K F_l_take) gvAll E (tCons (tVar 0) (tCons (tC (.int 4)) tNil)) tNil)) (gName 2))
    (tSeq (tAsg (tCl 3 0 (liftB K F_l_steps) gvAll E (tCons (tVar 0) (tCons (tOp (rIx K) (tLst (tCons (tC (.int 0)) (tCons (tC (.int 0)) (tCons (tOp (rAddU K) (tC (.int 1)) (tCl 2 0 (liftB K F_l_take) gvAll E (tCons (tVar 0) (tCons (tC (.int 3)) tNil)) tNil)) (tCons (tC (.int 24)) tNil))))) (tCl 2 0 (liftB K F_l_take) gvAll E (tCons (tVar 0) (tCons (tC (.int 4)) tNil)) tNil)) (tCons (tVar 2) tNil))) tNil) (gName 3))
    (tSeq (tAsg (tCl 3 0 (liftB K F_l_steps) gvAll E (tCons (tVar 0) (tCons (tOp (rIx K) (tLst (tCons (tC (.int 1)) (tCons (tC (.int 1)) (tCons (tC (.int 2)) (tCons (tC (.int 3)) (tCons (tC (.int 4)) (tCons (tC (.int 6)) (tCons (tC (.int 8)) (tCons (tC (.int 12)) (tCons (tC (.int 24)) tNil)))))))))) (tCl 2 0 (liftB K F_l_take) gvAll E (tCons (tVar 0) (tCons (tC (.int 9)) tNil)) tNil)) (tCons (tVar 2) tNil))) tNil) (gName 4))
    (tSeq (tAsg (tOp (rIx K) (tLst (tCons (tC (.int 0)) (tCons (tC (.int 1)) (tCons (tOp (rAddU K) (tC (.int 1)) (tOp rDivU (tVar 2) (tC (.int 5)))) (tCons (tCl 2 0 (liftB K F_l_take) gvAll E (tCons (tVar 0) (tCons (tOp (rAddU K) (tOp rPowU (tC (.int 10)) (tC (.int 9))) (tC (.int 1))) tNil)) tNil) tNil))))) (tCl 2 0 (liftB K F_l_take) gvAll E (tCons (tVar 0) (tCons (tC (.int 4)) tNil)) tNil)) (gName 5))
    (tRet (tTup (tCons (tVar 3) (tCons (tVar 4) (tCons (tVar 2) (tCons (tVar 5) (tCons (tOp (rEqU K) (tCl 2 0 (liftB K F_l_take) gvAll E (tCons (tVar 0) (tCons (tC (.int 2)) tNil)) tNil) (tC (.int 0))) tNil))))))))))))
theorem pure_l_plan {K : PySem.W.Frag} {vs : List V} {H : Hp} {Q : VK} {E : XK} (h : liftB K F_l_plan vs H Q E) : t_l_plan K E { nx := fun _ H' => Q .non H', rt := Q } (L2.start ["_law_bag_here", "_law_caps", "_law_ceiling", "_law_head", "_law_tail", "_law_lifting"] vs) H := by
  obtain ⟨B, h⟩ := h
  exact lift_of (t := t_l_plan K) (fun C ds Φ hK hm hE hn ⟨e, q⟩ => by
    subst hK hE e
    unfold t_l_plan
    refine b_seq (b_asg (EvD.mono (Φ := fun d => ∃ a b c : Int, d = .lst [.int a, .int b, .int c, .int (10 ^ 9)] ∧ (1 ≤ a ∧ a ≤ 9) ∧ (1 ≤ b ∧ b ≤ 100) ∧ 1 ≤ c ∧ c ≤ 10 ^ 9) ?_ fun d ⟨a, b, c, e, ha, hb, hc⟩ => ?_))
    · o_readsAll
      intro a a1 a2
      o_readsAll
      intro b b1 b2
      o_readsAll
      intro c c1 c2
      o_readsAll
      exact ⟨_, _, _, rfl, ⟨by omega, by omega⟩, ⟨by omega, by omega⟩, by omega, by omega⟩
    subst e
    refine b_seq (b_asg (EvD.mono (Φ := fun d => ∃ c : Int, d = .int c ∧ 1 ≤ c ∧ c ≤ 10 ^ 9) ?_ fun d ⟨c, e, hc1, hc2⟩ => ?_))
    · o_readsAll
      intro v v1 v2
      refine rd_pick v1 v2 fun d hd => ?_
      simp only [List.mem_cons, List.not_mem_nil, or_false] at hd
      rcases hd with rfl | rfl | rfl | rfl <;> exact ⟨_, rfl, by omega, by omega⟩
    subst e
    refine b_seq (b_asg (EvD.mono (Φ := fun d => ∃ l : List (Int × Int), d = stepsD l ∧ l.length ≤ 24 ∧ ∀ s ∈ l, StepOk s) ?_ fun d ⟨l, e, hl, hs⟩ => ?_))
    · o_readsAll
      intro v v1 v2
      o_readsAll
      intro w w1 w2
      refine rd_pick w1 w2 fun d hd => ?_
      simp only [List.mem_cons, List.not_mem_nil, or_false] at hd
      rcases hd with rfl | rfl | rfl | rfl <;> o_readsAll
      all_goals first | omega | skip
      all_goals intro l hl hs; exact ⟨l, rfl, by omega, hs⟩
    subst e
    refine b_seq (b_asg (EvD.mono (Φ := fun d => ∃ l : List (Int × Int), d = stepsD l ∧ l.length ∈ [1, 2, 3, 4, 6, 8, 12, 24] ∧ ∀ s ∈ l, StepOk s) ?_ fun d ⟨l', e, hl', hs'⟩ => ?_))
    · o_readsAll
      intro w w1 w2
      refine rd_pick w1 w2 fun d hd => ?_
      simp only [List.mem_cons, List.not_mem_nil, or_false] at hd
      rcases hd with rfl | rfl | rfl | rfl | rfl | rfl | rfl | rfl | rfl <;> o_readsAll
      all_goals first | omega | skip
      all_goals intro l hl hs; exact ⟨l, rfl, by simp only [List.mem_cons, List.not_mem_nil, or_false]; omega, hs⟩
    subst e
    refine b_seq (b_asg (EvD.mono (Φ := fun d => ∃ u : Int, d = .int u ∧ 0 ≤ u ∧ u ≤ 10 ^ 9) ?_ fun d ⟨u, e, hu1, hu2⟩ => ?_))
    · o_readsAll
      intro v v1 v2
      o_readsAll
      intro w w1 w2
      refine rd_pick w1 w2 fun d hd => ?_
      simp only [List.mem_cons, List.not_mem_nil, or_false] at hd
      rcases hd with rfl | rfl | rfl | rfl <;> exact ⟨_, rfl, by omega, by omega⟩
    subst e
    o_readsAll
    intro v v1 v2
    o_readsAll
    exact q ⟨l, l', c, u, _⟩ ⟨hl, hl', hs, hs', hc1, hc2, hu1, hu2⟩) h
def t_l_since (K : PySem.W.Frag) (E : XK) : TS :=
    (tSeq (tAsg (tCB (rLenU K) (tCons (tOp (rIx K) (tVar 1) (tC (.int 0))) tNil)) (gName 2))
    (tSeq (tAsg (tLst (tCons (tC (.int 0)) (tCons (tCl 2 0 (liftB K F_l_take) gvAll E (tCons (tVar 0) (tCons (tC (.int 30)) tNil)) tNil) (tCons (tVar 2) (tCons (tOp (rAddU K) (tVar 2) (tCl 2 0 (liftB K F_l_take) gvAll E (tCons (tVar 0) (tCons (tC (.int 25)) tNil)) tNil)) (tCons (tCl 2 0 (liftB K F_l_take) gvAll E (tCons (tVar 0) (tCons (tOp (rAddU K) (tOp rPowU (tC (.int 10)) (tC (.int 30))) (tC (.int 1))) tNil)) tNil) tNil)))))) (gName 3))
    (tRet (tOp (rIx K) (tOp (rAddU K) (tVar 3) (tLst (tCons (tOp rPowU (tC (.int 10)) (tC (.int 30))) tNil))) (tCl 2 0 (liftB K F_l_take) gvAll E (tCons (tVar 0) (tCons (tC (.int 6)) tNil)) tNil)))))
theorem pure_l_since {K : PySem.W.Frag} {vs : List V} {H : Hp} {Q : VK} {E : XK} (h : liftB K F_l_since vs H Q E) : t_l_since K E { nx := fun _ H' => Q .non H', rt := Q } (L2.start ["_law_bag_here", "_law_plan_here", "_law_long", "_law_some"] vs) H := by
  obtain ⟨B, h⟩ := h
  exact lift_of (t := t_l_since K) (fun C ds Φ hK hm hE hn ⟨p, e, ok, q⟩ => by
    subst hK hE e
    unfold t_l_since
    have := ok.hl
    o_readsAll
    intro a a1 a2
    o_readsAll
    intro b b1 b2
    o_readsAll
    intro c c1 c2
    o_readsAll
    refine rd_addL (by show 5 + 1 ≤ 100000; decide) ?_
    o_readsAll
    intro v v1 v2
    refine rd_pick v1 v2 fun d hd => ?_
    simp only [List.mem_cons, List.not_mem_nil, or_false, List.cons_append, List.nil_append] at hd
    rcases hd with rfl | rfl | rfl | rfl | rfl | rfl <;> exact q _ (by omega) (by omega)) h
/-! ### phases -/
theorem phase_ge {p : Plan} (ok : p.Ok) {n : Int} (h : (p.hs.length : Int) ≤ n) : p.phase n = p.hs.length + (n - p.hs.length) % p.ts.length := by
  unfold Plan.phase
  split
  · rw [Int.emod_eq_of_lt (by omega) (by omega)]
    omega
  · rfl
theorem phase_lt {p : Plan} {n : Int} (h : n < (p.hs.length : Int) + p.ts.length) : p.phase n = n := if_pos h
theorem phase_le {p : Plan} (ok : p.Ok) {n : Int} (h : 0 ≤ n) : 0 ≤ p.phase n ∧ p.phase n ≤ n ∧ p.phase n < (p.hs.length : Int) + p.ts.length := by
  have tp := ok.tpos
  by_cases hl : n < (p.hs.length : Int) + p.ts.length
  · rw [phase_lt hl]
    omega
  · rw [phase_ge ok (by omega)]
    have h1 : 0 ≤ (n - p.hs.length) % (p.ts.length : Int) := Int.emod_nonneg _ (by omega)
    have h2 : (n - p.hs.length) % (p.ts.length : Int) < p.ts.length := Int.emod_lt_of_pos _ (by omega)
    omega
theorem phase_phase {p : Plan} (ok : p.Ok) {n : Int} (h : 0 ≤ n) : p.phase (p.phase n) = p.phase n := phase_lt (phase_le ok h).2.2
theorem mod_day {p : Plan} (ok : p.Ok) (n d : Int) : (n + 24 * d) % (p.ts.length : Int) = n % p.ts.length := by
  obtain ⟨k, e⟩ := ok.t24
  rw [e, Int.mul_assoc, Int.add_mul_emod_self_left]
theorem phase_day {p : Plan} (ok : p.Ok) {n d : Int} (h : (p.hs.length : Int) ≤ n) (hd : 0 ≤ d) : p.phase (n + 24 * d) = p.phase n := by
  rw [phase_ge ok (by omega), phase_ge ok h, show n + 24 * d - (p.hs.length : Int) = n - p.hs.length + 24 * d by omega, mod_day ok]
theorem phase_sub {p : Plan} (ok : p.Ok) {n : Int} (h : (p.hs.length : Int) ≤ n) : (n - p.phase n) % (p.ts.length : Int) = 0 := by
  rw [phase_ge ok h]
  have e := Int.mul_ediv_add_emod (n - p.hs.length) (p.ts.length : Int)
  rw [show n - ((p.hs.length : Int) + (n - p.hs.length) % p.ts.length) = (p.ts.length : Int) * ((n - p.hs.length) / p.ts.length) by omega, Int.mul_emod_right]
theorem coming_ge {p : Plan} {n : Int} (h : (p.hs.length : Int) ≤ n) : p.coming n = p.ts.getD ((n - p.hs.length) % p.ts.length).toNat (1, 0) := if_neg (by omega)
theorem coming_phase {p : Plan} (ok : p.Ok) {n j : Int} (hn : 0 ≤ n) (hj : 0 ≤ j) : p.coming (p.phase n + j) = p.coming (n + j) := by
  by_cases hl : n < (p.hs.length : Int) + p.ts.length
  · rw [phase_lt hl]
  · have h1 : 0 ≤ (n - p.hs.length) % (p.ts.length : Int) := Int.emod_nonneg _ (by have := ok.tpos; omega)
    rw [phase_ge ok (by omega), coming_ge (by omega), coming_ge (by omega), show (p.hs.length : Int) + (n - p.hs.length) % p.ts.length + j - p.hs.length = (n - p.hs.length) % p.ts.length + j by omega, Int.emod_add_emod,
      show n - (p.hs.length : Int) + j = n + j - p.hs.length by omega]
theorem coming_day {p : Plan} (ok : p.Ok) {n d : Int} (h : (p.hs.length : Int) ≤ n) (hd : 0 ≤ d) : p.coming (n + 24 * d) = p.coming n := by
  rw [coming_ge (by omega), coming_ge h, show n + 24 * d - (p.hs.length : Int) = n - p.hs.length + 24 * d by omega, mod_day ok]
theorem phase_next {p : Plan} (ok : p.Ok) {n : Int} (h : 0 ≤ n) : p.phase (n + 1) = if p.phase n + 1 = (p.hs.length : Int) + p.ts.length then (p.hs.length : Int) else p.phase n + 1 := by
  have tp := ok.tpos
  by_cases hl : n + 1 < (p.hs.length : Int) + p.ts.length
  · rw [phase_lt hl, phase_lt (by omega), if_neg (by omega)]
  · rw [phase_ge ok (by omega : (p.hs.length : Int) ≤ n + 1), phase_ge ok (by omega : (p.hs.length : Int) ≤ n)]
    have h1 : 0 ≤ (n - p.hs.length) % (p.ts.length : Int) := Int.emod_nonneg _ (by omega)
    have h2 : (n - p.hs.length) % (p.ts.length : Int) < p.ts.length := Int.emod_lt_of_pos _ (by omega)
    have e : (n + 1 - p.hs.length) % (p.ts.length : Int) = ((n - p.hs.length) % p.ts.length + 1) % p.ts.length := by
      rw [Int.emod_add_emod, show n + 1 - (p.hs.length : Int) = n - p.hs.length + 1 by omega]
    rw [e]
    split
    · rw [show (n - (p.hs.length : Int)) % p.ts.length + 1 = p.ts.length by omega, Int.emod_self]
      omega
    · rw [Int.emod_eq_of_lt (by omega) (by omega)]
      omega
end Wn
end

section
/-! One turn, one asking; phases of a plan. -/
namespace Wn
open PySem PySem.Spec PyProof.Rows L2
local macro_rules | `(tactic| o_shape) => `(tactic| first | assumption | rfl | trivial | omega | decide)
local macro_rules | `(tactic| o_reads) => `(tactic| first | fail "no rule" | fail)
local macro_rules | `(tactic| o_reads) => `(tactic| first | (apply Exists.intro; (repeat apply Exists.intro); exact rfl) | fail)
local macro_rules | `(tactic| o_reads) => `(tactic| first | refine ⟨(by assumption : Plan.Ok _), ?_⟩ | fail)
local macro_rules | `(tactic| o_reads) => `(tactic| first | refine ⟨by exact Nat.le_of_ble_eq_true rfl, ?_⟩ | fail)
local macro_rules | `(tactic| o_reads) => `(tactic| first | refine ⟨rfl, ?_⟩ | fail)
local macro_rules | `(tactic| o_reads) => `(tactic| first | refine ⟨_, _, _, _, rfl, ?_⟩ | fail)
local macro_rules | `(tactic| o_reads) => `(tactic| first | refine ⟨_, _, _, rfl, ?_⟩ | fail)
local macro_rules | `(tactic| o_reads) => `(tactic| first | refine ⟨_, _, rfl, ?_⟩ | fail)
local macro_rules | `(tactic| o_reads) => `(tactic| first | refine ⟨_, rfl, ?_⟩ | fail)
local macro_rules | `(tactic| o_reads) => `(tactic| first | refine ⟨⟨by first | decide | omega, by first | decide | omega⟩, ?_⟩ | fail)
local macro_rules | `(tactic| o_reads) => `(tactic| first | with_reducible refine eo_part ?_ | fail)
local macro_rules | `(tactic| o_reads) => `(tactic| first | with_reducible refine eo_none ?_ | fail)
local macro_rules | `(tactic| o_reads) => `(tactic| first | (((with_reducible apply rd_atM); (first | assumption | omega)); assumption) | fail)
local macro_rules | `(tactic| o_reads) => `(tactic| first | refine ⟨fit_step (coming_ok (by assumption) _), ?_⟩ | fail)
local macro_rules | `(tactic| o_reads) => `(tactic| first | refine ⟨fit_int ⟨by omega, by omega⟩, ?_⟩ | fail)
local macro_rules | `(tactic| o_reads) => `(tactic| first | ((with_reducible refine rc_isW ?_ ?_); assumption) | fail)
local macro_rules | `(tactic| o_reads) => `(tactic| first | with_reducible refine ev_adr ?_ | fail)
local macro_rules | `(tactic| o_reads) => `(tactic| first | with_reducible exact rfl | fail)
local macro_rules | `(tactic| o_reads) => `(tactic| first | exact dn_t (by omega) | fail)
local macro_rules | `(tactic| o_reads) => `(tactic| first | exact dn_f (by omega) | fail)
local macro_rules | `(tactic| o_reads) => `(tactic| first | exact decide_eq_true (by omega) | fail)
local macro_rules | `(tactic| o_reads) => `(tactic| first | exact decide_eq_false (by omega) | fail)
local macro_rules | `(tactic| o_reads) => `(tactic| first | exact (rfl : (!true) = false) | fail)
local macro_rules | `(tactic| o_reads) => `(tactic| first | refine sprn (fun z => ?_) (fun z => ?_) | fail)
local macro_rules | `(tactic| o_reads) => `(tactic| first | refine spln (fun z => ?_) (fun z => ?_) | fail)
local macro_rules | `(tactic| o_reads) => `(tactic| first | refine spr (fun z => ?_) (fun z => ?_) | fail)
local macro_rules | `(tactic| o_reads) => `(tactic| first | refine spl (fun z => ?_) (fun z => ?_) | fail)
local macro_rules | `(tactic| o_reads) => `(tactic| first | with_reducible refine spNF ?_ | fail)
local macro_rules | `(tactic| o_reads) => `(tactic| first | with_reducible refine spNT ?_ | fail)
local macro_rules | `(tactic| o_reads) => `(tactic| first | refine sprn (fun _ => ?_) (fun z => absurd z (by omega)) | fail)
local macro_rules | `(tactic| o_reads) => `(tactic| first | refine sprn (fun z => absurd z (by omega)) (fun _ => ?_) | fail)
local macro_rules | `(tactic| o_reads) => `(tactic| first | refine spln (fun _ => ?_) (fun z => absurd z (by omega)) | fail)
local macro_rules | `(tactic| o_reads) => `(tactic| first | refine spln (fun z => absurd z (by omega)) (fun _ => ?_) | fail)
local macro_rules | `(tactic| o_reads) => `(tactic| first | refine spr (fun _ => ?_) (fun z => absurd z (by omega)) | fail)
local macro_rules | `(tactic| o_reads) => `(tactic| first | refine spr (fun z => absurd z (by omega)) (fun _ => ?_) | fail)
local macro_rules | `(tactic| o_reads) => `(tactic| first | refine spl (fun _ => ?_) (fun z => absurd z (by omega)) | fail)
local macro_rules | `(tactic| o_reads) => `(tactic| first | refine spl (fun z => absurd z (by omega)) (fun _ => ?_) | fail)
local macro_rules | `(tactic| o_reads) => `(tactic| first | with_reducible refine sprf ?_ | fail)
local macro_rules | `(tactic| o_reads) => `(tactic| first | with_reducible refine sprt ?_ | fail)
local macro_rules | `(tactic| o_reads) => `(tactic| first | with_reducible refine spff ?_ | fail)
local macro_rules | `(tactic| o_reads) => `(tactic| first | with_reducible refine sptt ?_ | fail)
local macro_rules | `(tactic| o_reads) => `(tactic| first | ((with_reducible refine ev_wm rfl ?_ ?_); decide +kernel) | fail)
local macro_rules | `(tactic| o_reads) => `(tactic| first | ((with_reducible refine ev_anew ?_ ?_); assumption) | fail)
local macro_rules | `(tactic| o_reads) => `(tactic| first | ((with_reducible refine ev_up ?_ ?_); assumption) | fail)
local macro_rules | `(tactic| o_reads) => `(tactic| first | ((with_reducible refine ev_cap ?_ ?_); assumption) | fail)
local macro_rules | `(tactic| o_reads) => `(tactic| first | ((with_reducible refine ev_ts ?_ ?_); assumption) | fail)
local macro_rules | `(tactic| o_reads) => `(tactic| first | ((with_reducible refine ev_hs ?_ ?_); assumption) | fail)
local macro_rules | `(tactic| o_reads) => `(tactic| first | (((with_reducible apply ev_clB (hg := gAll) (hK := rfl)); assumption); assumption) | fail)
local macro_rules | `(tactic| o_reads) => `(tactic| first | (((with_reducible apply ev_tk rfl); assumption); assumption) | fail)
local macro_rules | `(tactic| o_reads) => `(tactic| first | with_reducible refine ev_cl Sub.pure gAll ?_ | fail)
local macro_rules | `(tactic| o_reads) => `(tactic| first | with_reducible refine ev_withinI rfl ?_ | fail)
local macro_rules | `(tactic| o_reads) => `(tactic| first | with_reducible refine ev_strengthI rfl ?_ | fail)
local macro_rules | `(tactic| o_reads) => `(tactic| first | with_reducible refine ev_sizeI rfl ?_ | fail)
local macro_rules | `(tactic| o_reads) => `(tactic| first | with_reducible refine ev_momentI rfl ?_ | fail)
local macro_rules | `(tactic| o_reads) => `(tactic| first | with_reducible refine ev_wholeI rfl ?_ | fail)
local macro_rules | `(tactic| o_reads) => `(tactic| first | ((with_reducible refine rc_isS ?_ ?_); first | assumption | (simp [D.tyn]; done) | (apply plainD.ty; assumption)) | fail)
local macro_rules | `(tactic| o_reads) => `(tactic| first | ((with_reducible refine rc_isT ?_ ?_); first | assumption | (simp [D.tyn]; done) | (apply plainD.ty; assumption)) | fail)
local macro_rules | `(tactic| o_reads) => `(tactic| first | ((with_reducible refine rc_isL ?_ ?_); first | assumption | (simp [D.tyn]; done) | (apply plainD.ty; assumption)) | fail)
local macro_rules | `(tactic| o_reads) => `(tactic| first | ((with_reducible refine rc_isB ?_ ?_); first | assumption | (simp [D.tyn]; done) | (apply plainD.ty; assumption)) | fail)
local macro_rules | `(tactic| o_reads) => `(tactic| first | ((with_reducible refine rc_isI ?_ ?_); first | assumption | (simp [D.tyn]; done) | (apply plainD.ty; assumption)) | fail)
local macro_rules | `(tactic| o_reads) => `(tactic| first | with_reducible refine rc_intB ?_ | fail)
local macro_rules | `(tactic| o_reads) => `(tactic| first | with_reducible refine rc_intI ?_ | fail)
local macro_rules | `(tactic| o_reads) => `(tactic| first | with_reducible refine rc_min ?_ | fail)
local macro_rules | `(tactic| o_reads) => `(tactic| first | with_reducible refine rc_max ?_ | fail)
local macro_rules | `(tactic| o_reads) => `(tactic| first | with_reducible refine rc_abs ?_ | fail)
local macro_rules | `(tactic| o_reads) => `(tactic| first | with_reducible refine rc_lenT ?_ | fail)
local macro_rules | `(tactic| o_reads) => `(tactic| first | with_reducible refine rc_lenL ?_ | fail)
local macro_rules | `(tactic| o_reads) => `(tactic| first | with_reducible refine rc_lenD ?_ | fail)
local macro_rules | `(tactic| o_reads) => `(tactic| first | with_reducible refine rd_notN ?_ | fail)
local macro_rules | `(tactic| o_reads) => `(tactic| first | with_reducible refine rd_isN ?_ | fail)
local macro_rules | `(tactic| o_reads) => `(tactic| first | ((with_reducible apply rd_ixL); exact rfl) | fail)
local macro_rules | `(tactic| o_reads) => `(tactic| first | ((with_reducible apply rd_ixT); exact rfl) | fail)
local macro_rules | `(tactic| o_reads) => `(tactic| first | (((with_reducible refine rd_atD ?_ ?_ ?_); (first | assumption | omega)); (first | assumption | omega)) | fail)
local macro_rules | `(tactic| o_reads) => `(tactic| first | with_reducible refine rd_p4 ?_ | fail)
local macro_rules | `(tactic| o_reads) => `(tactic| first | with_reducible refine rd_p3 ?_ | fail)
local macro_rules | `(tactic| o_reads) => `(tactic| first | with_reducible refine rd_p2 ?_ | fail)
local macro_rules | `(tactic| o_reads) => `(tactic| first | with_reducible refine rd_p1 ?_ | fail)
local macro_rules | `(tactic| o_reads) => `(tactic| first | with_reducible refine rd_p0 ?_ | fail)
local macro_rules | `(tactic| o_reads) => `(tactic| first | with_reducible refine ru_neg ?_ | fail)
local macro_rules | `(tactic| o_reads) => `(tactic| first | (((with_reducible refine rd_pow ?_ ?_); exact ⟨by decide, by decide, by decide⟩); dsimp only [Int.reduceToNat]) | fail)
local macro_rules | `(tactic| o_reads) => `(tactic| first | with_reducible refine rd_mul ?_ ?_ | fail)
local macro_rules | `(tactic| o_reads) => `(tactic| first | ((with_reducible refine rd_mul ?_ ?_); first | exact .inl ⟨by omega, by omega⟩ | exact .inr ⟨by omega, by omega⟩) | fail)
local macro_rules | `(tactic| o_reads) => `(tactic| first | with_reducible refine rd_div ?_ ?_ | fail)
local macro_rules | `(tactic| o_reads) => `(tactic| first | ((with_reducible refine rd_div ?_ ?_); exact ⟨by o_shape, by first | decide | (apply lg <;> omega)⟩) | fail)
local macro_rules | `(tactic| o_reads) => `(tactic| first | with_reducible refine rd_mod ?_ ?_ | fail)
local macro_rules | `(tactic| o_reads) => `(tactic| first | ((with_reducible refine rd_mod ?_ ?_); o_shape) | fail)
local macro_rules | `(tactic| o_reads) => `(tactic| first | with_reducible refine rd_ge ?_ | fail)
local macro_rules | `(tactic| o_reads) => `(tactic| first | with_reducible refine rd_gt ?_ | fail)
local macro_rules | `(tactic| o_reads) => `(tactic| first | with_reducible refine rd_le ?_ | fail)
local macro_rules | `(tactic| o_reads) => `(tactic| first | with_reducible refine rd_lt ?_ | fail)
local macro_rules | `(tactic| o_reads) => `(tactic| first | with_reducible refine rd_neS ?_ | fail)
local macro_rules | `(tactic| o_reads) => `(tactic| first | with_reducible refine rd_neI2 ?_ | fail)
local macro_rules | `(tactic| o_reads) => `(tactic| first | with_reducible refine rd_eqS ?_ | fail)
local macro_rules | `(tactic| o_reads) => `(tactic| first | with_reducible refine rd_eqB ?_ | fail)
local macro_rules | `(tactic| o_reads) => `(tactic| first | with_reducible refine rd_eqI ?_ | fail)
local macro_rules | `(tactic| o_reads) => `(tactic| first | with_reducible refine rd_sub ?_ | fail)
local macro_rules | `(tactic| o_reads) => `(tactic| first | with_reducible refine rd_addI ?_ | fail)
local macro_rules | `(tactic| o_reads) => `(tactic| first | with_reducible refine g_tup rfl ?_ | fail)
local macro_rules | `(tactic| o_reads) => `(tactic| first | with_reducible refine gs_nil ?_ | fail)
local macro_rules | `(tactic| o_reads) => `(tactic| first | with_reducible refine gs_cons ?_ | fail)
local macro_rules | `(tactic| o_reads) => `(tactic| first | with_reducible refine g_name ?_ | fail)
local macro_rules | `(tactic| o_reads) => `(tactic| first | with_reducible refine b_asgG ?_ | fail)
local macro_rules | `(tactic| o_reads) => `(tactic| first | ((with_reducible apply b_aug); exact rfl) | fail)
local macro_rules | `(tactic| o_reads) => `(tactic| first | with_reducible refine b_par ?_ | fail)
local macro_rules | `(tactic| o_reads) => `(tactic| first | with_reducible refine b_drop ?_ | fail)
local macro_rules | `(tactic| o_reads) => `(tactic| first | with_reducible refine b_cont ?_ | fail)
local macro_rules | `(tactic| o_reads) => `(tactic| first | with_reducible refine b_brk ?_ | fail)
local macro_rules | `(tactic| o_reads) => `(tactic| first | with_reducible refine b_retN ?_ | fail)
local macro_rules | `(tactic| o_reads) => `(tactic| first | with_reducible refine b_asg ?_ | fail)
local macro_rules | `(tactic| o_reads) => `(tactic| first | with_reducible refine b_next ?_ | fail)
local macro_rules | `(tactic| o_reads) => `(tactic| first | with_reducible refine b_ret ?_ | fail)
local macro_rules | `(tactic| o_reads) => `(tactic| first | with_reducible refine b_if ?_ | fail)
local macro_rules | `(tactic| o_reads) => `(tactic| first | with_reducible refine b_ifR ?_ ?_ | fail)
local macro_rules | `(tactic| o_reads) => `(tactic| first | with_reducible refine b_seq ?_ | fail)
local macro_rules | `(tactic| o_reads) => `(tactic| first | with_reducible refine ev_chain ?_ | fail)
local macro_rules | `(tactic| o_reads) => `(tactic| first | with_reducible refine ev_if ?_ | fail)
local macro_rules | `(tactic| o_reads) => `(tactic| first | with_reducible refine ev_notV ?_ | fail)
local macro_rules | `(tactic| o_reads) => `(tactic| first | with_reducible refine ev_orV ?_ | fail)
local macro_rules | `(tactic| o_reads) => `(tactic| first | with_reducible refine ev_andV ?_ | fail)
local macro_rules | `(tactic| o_reads) => `(tactic| first | with_reducible refine ev_lst ?_ | fail)
local macro_rules | `(tactic| o_reads) => `(tactic| first | with_reducible refine ev_tup ?_ | fail)
local macro_rules | `(tactic| o_reads) => `(tactic| first | with_reducible refine et_or ?_ | fail)
local macro_rules | `(tactic| o_reads) => `(tactic| first | with_reducible refine et_and ?_ | fail)
local macro_rules | `(tactic| o_reads) => `(tactic| first | with_reducible refine et_not ?_ | fail)
local macro_rules | `(tactic| o_reads) => `(tactic| first | with_reducible refine et_b ?_ | fail)
local macro_rules | `(tactic| o_reads) => `(tactic| first | with_reducible refine et_test ?_ | fail)
local macro_rules | `(tactic| o_reads) => `(tactic| first | with_reducible refine ev_cb ?_ | fail)
local macro_rules | `(tactic| o_reads) => `(tactic| first | with_reducible refine ev_un ?_ | fail)
local macro_rules | `(tactic| o_reads) => `(tactic| first | with_reducible refine ev_op ?_ | fail)
local macro_rules | `(tactic| o_reads) => `(tactic| first | with_reducible refine ea_cons ?_ | fail)
local macro_rules | `(tactic| o_reads) => `(tactic| first | with_reducible refine ea_nil ?_ | fail)
local macro_rules | `(tactic| o_reads) => `(tactic| first | with_reducible refine ev_ty ?_ | fail)
local macro_rules | `(tactic| o_reads) => `(tactic| first | with_reducible refine ev_non ?_ | fail)
local macro_rules | `(tactic| o_reads) => `(tactic| first | with_reducible refine ev_bl ?_ | fail)
local macro_rules | `(tactic| o_reads) => `(tactic| first | with_reducible refine ev_str ?_ | fail)
local macro_rules | `(tactic| o_reads) => `(tactic| first | with_reducible refine ev_int ?_ | fail)
local macro_rules | `(tactic| o_reads) => `(tactic| first | ((with_reducible apply ev_var); exact rfl) | fail)
local macro_rules | `(tactic| o_readsAll) => `(tactic| repeat' o_reads)
section
variable {K : PySem.W.Frag} {p : Plan} {Φ : D → Prop}
theorem rc_isW (T : Isi K (He.ga K "Wane")) (q : Φ (.bl true)) : RC K (rIsi K) [waneD K p, .adr (He.ga K "Wane")] Φ := rc_isiO T q
theorem rd_atM {α : Type} {f : α → D} {l : List α} {i : Int} {x : α} (h0 : 0 ≤ i) (h : l[i.toNat]? = some x) (q : Φ (f x)) : RD K (rIx K) (.lst (l.map f)) (.int i) Φ := rd_at h0 (by rw [List.getElem?_map, h]; rfl) q
end
section
variable {C : Ctx} {δ : List Sl} {ta tb tc : TE} {Φ : D → Prop} {K : PySem.W.Frag}
theorem ev_wholeI (hK : K = C.K) (h : EvD C ta δ fun d => ∃ i, d = .int i ∧ Φ (.bl true)) : EvD C (tCl 1 0 (lift K pureM (F_is_whole K)) gvAll C.E (tCons ta tNil) tNil) δ Φ := by
  subst hK
  exact ev_cl Sub.pure gAll (ea_cons (h.mono fun d ⟨i, e, q⟩ => ea_nil (ea_nil ⟨rfl, rfl, d, rfl, by rw [e]; simp [D.tyn], by rw [e]; exact q⟩)))
theorem ev_momentI (hK : K = C.K) (h : EvD C ta δ fun d => ∃ i, d = .int i ∧ Φ (.bl (decide (0 ≤ i ∧ i ≤ 10 ^ 30)))) : EvD C (tCl 1 0 (lift K pureM (F_is_moment K)) gvAll C.E (tCons ta tNil) tNil) δ Φ := by
  subst hK
  exact ev_cl Sub.pure gAll (ea_cons (h.mono fun d ⟨i, e, q⟩ => ea_nil (ea_nil ⟨rfl, rfl, d, rfl, by rw [e]; simp [D.tyn], by rw [e]; exact q⟩)))
theorem ev_sizeI (hK : K = C.K) (h : EvD C ta δ fun d => ∃ i, d = .int i ∧ Φ (.bl (decide (0 ≤ i ∧ i ≤ 10 ^ 9)))) : EvD C (tCl 1 0 (lift K pureM (F_is_size K)) gvAll C.E (tCons ta tNil) tNil) δ Φ := by
  subst hK
  exact ev_cl Sub.pure gAll (ea_cons (h.mono fun d ⟨i, e, q⟩ => ea_nil (ea_nil ⟨rfl, rfl, d, rfl, by rw [e]; simp [D.tyn], by rw [e]; exact q⟩)))
theorem ev_strengthI (hK : K = C.K) (h : EvD C ta δ fun d => ∃ i, d = .int i ∧ Φ (.bl (decide (1 ≤ i ∧ i ≤ 10 ^ 9)))) : EvD C (tCl 1 0 (lift K pureM (F_is_strength K)) gvAll C.E (tCons ta tNil) tNil) δ Φ := by
  subst hK
  exact ev_cl Sub.pure gAll (ea_cons (h.mono fun d ⟨i, e, q⟩ => ea_nil (ea_nil ⟨rfl, rfl, d, rfl, by rw [e]; simp [D.tyn], by rw [e]; exact q⟩)))
theorem ev_withinI (hK : K = C.K) (h : EvD C ta δ fun d => ∃ i, d = .int i ∧ EvD C tb δ fun b => ∃ lo, b = .int lo ∧ EvD C tc δ fun c => ∃ hi, c = .int hi ∧ Φ (.bl (decide (lo ≤ i ∧ i ≤ hi)))) : EvD C (tCl 3 0 (lift K pureM (F_is_within K)) gvAll C.E (tCons ta (tCons tb (tCons tc tNil))) tNil) δ Φ := by
  subst hK
  exact ev_cl Sub.pure gAll (ea_cons (h.mono fun d ⟨i, e, h⟩ => ea_cons (h.mono fun b ⟨lo, eb, h⟩ => ea_cons (h.mono fun c ⟨hi, ec, q⟩ => ea_nil (ea_nil ⟨rfl, rfl, d, lo, hi, by rw [eb, ec]; rfl, by rw [e]; simp [D.tyn], by rw [e]; exact q⟩)))))
end
local macro_rules | `(tactic| o_shape) => `(tactic| first | assumption | rfl | trivial | omega | decide)
local macro_rules | `(tactic| o_reads) => `(tactic| first | fail "no rule" | fail)
local macro_rules | `(tactic| o_reads) => `(tactic| first | (apply Exists.intro; (repeat apply Exists.intro); exact rfl) | fail)
local macro_rules | `(tactic| o_reads) => `(tactic| first | refine ⟨(by assumption : Plan.Ok _), ?_⟩ | fail)
local macro_rules | `(tactic| o_reads) => `(tactic| first | refine ⟨by exact Nat.le_of_ble_eq_true rfl, ?_⟩ | fail)
local macro_rules | `(tactic| o_reads) => `(tactic| first | refine ⟨rfl, ?_⟩ | fail)
local macro_rules | `(tactic| o_reads) => `(tactic| first | refine ⟨_, _, _, _, rfl, ?_⟩ | fail)
local macro_rules | `(tactic| o_reads) => `(tactic| first | refine ⟨_, _, _, rfl, ?_⟩ | fail)
local macro_rules | `(tactic| o_reads) => `(tactic| first | refine ⟨_, _, rfl, ?_⟩ | fail)
local macro_rules | `(tactic| o_reads) => `(tactic| first | refine ⟨_, rfl, ?_⟩ | fail)
local macro_rules | `(tactic| o_reads) => `(tactic| first | refine ⟨⟨by first | decide | omega, by first | decide | omega⟩, ?_⟩ | fail)
local macro_rules | `(tactic| o_reads) => `(tactic| first | with_reducible refine eo_part ?_ | fail)
local macro_rules | `(tactic| o_reads) => `(tactic| first | with_reducible refine eo_none ?_ | fail)
local macro_rules | `(tactic| o_reads) => `(tactic| first | (((with_reducible apply rd_atM); (first | assumption | omega)); assumption) | fail)
local macro_rules | `(tactic| o_reads) => `(tactic| first | refine ⟨fit_step (coming_ok (by assumption) _), ?_⟩ | fail)
local macro_rules | `(tactic| o_reads) => `(tactic| first | refine ⟨fit_int ⟨by omega, by omega⟩, ?_⟩ | fail)
local macro_rules | `(tactic| o_reads) => `(tactic| first | ((with_reducible refine rc_isW ?_ ?_); assumption) | fail)
local macro_rules | `(tactic| o_reads) => `(tactic| first | with_reducible refine ev_adr ?_ | fail)
local macro_rules | `(tactic| o_reads) => `(tactic| first | with_reducible exact rfl | fail)
local macro_rules | `(tactic| o_reads) => `(tactic| first | exact dn_t (by omega) | fail)
local macro_rules | `(tactic| o_reads) => `(tactic| first | exact dn_f (by omega) | fail)
local macro_rules | `(tactic| o_reads) => `(tactic| first | exact decide_eq_true (by omega) | fail)
local macro_rules | `(tactic| o_reads) => `(tactic| first | exact decide_eq_false (by omega) | fail)
local macro_rules | `(tactic| o_reads) => `(tactic| first | exact (rfl : (!true) = false) | fail)
local macro_rules | `(tactic| o_reads) => `(tactic| first | refine sprn (fun z => ?_) (fun z => ?_) | fail)
local macro_rules | `(tactic| o_reads) => `(tactic| first | refine spln (fun z => ?_) (fun z => ?_) | fail)
local macro_rules | `(tactic| o_reads) => `(tactic| first | refine spr (fun z => ?_) (fun z => ?_) | fail)
local macro_rules | `(tactic| o_reads) => `(tactic| first | refine spl (fun z => ?_) (fun z => ?_) | fail)
local macro_rules | `(tactic| o_reads) => `(tactic| first | with_reducible refine spNF ?_ | fail)
local macro_rules | `(tactic| o_reads) => `(tactic| first | with_reducible refine spNT ?_ | fail)
local macro_rules | `(tactic| o_reads) => `(tactic| first | refine sprn (fun _ => ?_) (fun z => absurd z (by omega)) | fail)
local macro_rules | `(tactic| o_reads) => `(tactic| first | refine sprn (fun z => absurd z (by omega)) (fun _ => ?_) | fail)
local macro_rules | `(tactic| o_reads) => `(tactic| first | refine spln (fun _ => ?_) (fun z => absurd z (by omega)) | fail)
local macro_rules | `(tactic| o_reads) => `(tactic| first | refine spln (fun z => absurd z (by omega)) (fun _ => ?_) | fail)
local macro_rules | `(tactic| o_reads) => `(tactic| first | refine spr (fun _ => ?_) (fun z => absurd z (by omega)) | fail)
local macro_rules | `(tactic| o_reads) => `(tactic| first | refine spr (fun z => absurd z (by omega)) (fun _ => ?_) | fail)
local macro_rules | `(tactic| o_reads) => `(tactic| first | refine spl (fun _ => ?_) (fun z => absurd z (by omega)) | fail)
local macro_rules | `(tactic| o_reads) => `(tactic| first | refine spl (fun z => absurd z (by omega)) (fun _ => ?_) | fail)
local macro_rules | `(tactic| o_reads) => `(tactic| first | with_reducible refine sprf ?_ | fail)
local macro_rules | `(tactic| o_reads) => `(tactic| first | with_reducible refine sprt ?_ | fail)
local macro_rules | `(tactic| o_reads) => `(tactic| first | with_reducible refine spff ?_ | fail)
local macro_rules | `(tactic| o_reads) => `(tactic| first | with_reducible refine sptt ?_ | fail)
local macro_rules | `(tactic| o_reads) => `(tactic| first | ((with_reducible refine ev_wm rfl ?_ ?_); decide +kernel) | fail)
local macro_rules | `(tactic| o_reads) => `(tactic| first | ((with_reducible refine ev_anew ?_ ?_); assumption) | fail)
local macro_rules | `(tactic| o_reads) => `(tactic| first | ((with_reducible refine ev_up ?_ ?_); assumption) | fail)
local macro_rules | `(tactic| o_reads) => `(tactic| first | ((with_reducible refine ev_cap ?_ ?_); assumption) | fail)
local macro_rules | `(tactic| o_reads) => `(tactic| first | ((with_reducible refine ev_ts ?_ ?_); assumption) | fail)
local macro_rules | `(tactic| o_reads) => `(tactic| first | ((with_reducible refine ev_hs ?_ ?_); assumption) | fail)
local macro_rules | `(tactic| o_reads) => `(tactic| first | (((with_reducible apply ev_clB (hg := gAll) (hK := rfl)); assumption); assumption) | fail)
local macro_rules | `(tactic| o_reads) => `(tactic| first | (((with_reducible apply ev_tk rfl); assumption); assumption) | fail)
local macro_rules | `(tactic| o_reads) => `(tactic| first | with_reducible refine ev_cl Sub.pure gAll ?_ | fail)
local macro_rules | `(tactic| o_reads) => `(tactic| first | with_reducible refine ev_withinI rfl ?_ | fail)
local macro_rules | `(tactic| o_reads) => `(tactic| first | with_reducible refine ev_strengthI rfl ?_ | fail)
local macro_rules | `(tactic| o_reads) => `(tactic| first | with_reducible refine ev_sizeI rfl ?_ | fail)
local macro_rules | `(tactic| o_reads) => `(tactic| first | with_reducible refine ev_momentI rfl ?_ | fail)
local macro_rules | `(tactic| o_reads) => `(tactic| first | with_reducible refine ev_wholeI rfl ?_ | fail)
local macro_rules | `(tactic| o_reads) => `(tactic| first | ((with_reducible refine rc_isS ?_ ?_); first | assumption | (simp [D.tyn]; done) | (apply plainD.ty; assumption)) | fail)
local macro_rules | `(tactic| o_reads) => `(tactic| first | ((with_reducible refine rc_isT ?_ ?_); first | assumption | (simp [D.tyn]; done) | (apply plainD.ty; assumption)) | fail)
local macro_rules | `(tactic| o_reads) => `(tactic| first | ((with_reducible refine rc_isL ?_ ?_); first | assumption | (simp [D.tyn]; done) | (apply plainD.ty; assumption)) | fail)
local macro_rules | `(tactic| o_reads) => `(tactic| first | ((with_reducible refine rc_isB ?_ ?_); first | assumption | (simp [D.tyn]; done) | (apply plainD.ty; assumption)) | fail)
local macro_rules | `(tactic| o_reads) => `(tactic| first | ((with_reducible refine rc_isI ?_ ?_); first | assumption | (simp [D.tyn]; done) | (apply plainD.ty; assumption)) | fail)
local macro_rules | `(tactic| o_reads) => `(tactic| first | with_reducible refine rc_intB ?_ | fail)
local macro_rules | `(tactic| o_reads) => `(tactic| first | with_reducible refine rc_intI ?_ | fail)
local macro_rules | `(tactic| o_reads) => `(tactic| first | with_reducible refine rc_min ?_ | fail)
local macro_rules | `(tactic| o_reads) => `(tactic| first | with_reducible refine rc_max ?_ | fail)
local macro_rules | `(tactic| o_reads) => `(tactic| first | with_reducible refine rc_abs ?_ | fail)
local macro_rules | `(tactic| o_reads) => `(tactic| first | with_reducible refine rc_lenT ?_ | fail)
local macro_rules | `(tactic| o_reads) => `(tactic| first | with_reducible refine rc_lenL ?_ | fail)
local macro_rules | `(tactic| o_reads) => `(tactic| first | with_reducible refine rc_lenD ?_ | fail)
local macro_rules | `(tactic| o_reads) => `(tactic| first | with_reducible refine rd_notN ?_ | fail)
local macro_rules | `(tactic| o_reads) => `(tactic| first | with_reducible refine rd_isN ?_ | fail)
local macro_rules | `(tactic| o_reads) => `(tactic| first | ((with_reducible apply rd_ixL); exact rfl) | fail)
local macro_rules | `(tactic| o_reads) => `(tactic| first | ((with_reducible apply rd_ixT); exact rfl) | fail)
local macro_rules | `(tactic| o_reads) => `(tactic| first | (((with_reducible refine rd_atD ?_ ?_ ?_); (first | assumption | omega)); (first | assumption | omega)) | fail)
local macro_rules | `(tactic| o_reads) => `(tactic| first | with_reducible refine rd_p4 ?_ | fail)
local macro_rules | `(tactic| o_reads) => `(tactic| first | with_reducible refine rd_p3 ?_ | fail)
local macro_rules | `(tactic| o_reads) => `(tactic| first | with_reducible refine rd_p2 ?_ | fail)
local macro_rules | `(tactic| o_reads) => `(tactic| first | with_reducible refine rd_p1 ?_ | fail)
local macro_rules | `(tactic| o_reads) => `(tactic| first | with_reducible refine rd_p0 ?_ | fail)
local macro_rules | `(tactic| o_reads) => `(tactic| first | with_reducible refine ru_neg ?_ | fail)
local macro_rules | `(tactic| o_reads) => `(tactic| first | (((with_reducible refine rd_pow ?_ ?_); exact ⟨by decide, by decide, by decide⟩); dsimp only [Int.reduceToNat]) | fail)
local macro_rules | `(tactic| o_reads) => `(tactic| first | with_reducible refine rd_mul ?_ ?_ | fail)
local macro_rules | `(tactic| o_reads) => `(tactic| first | ((with_reducible refine rd_mul ?_ ?_); first | exact .inl ⟨by omega, by omega⟩ | exact .inr ⟨by omega, by omega⟩) | fail)
local macro_rules | `(tactic| o_reads) => `(tactic| first | with_reducible refine rd_div ?_ ?_ | fail)
local macro_rules | `(tactic| o_reads) => `(tactic| first | ((with_reducible refine rd_div ?_ ?_); exact ⟨by o_shape, by first | decide | (apply lg <;> omega)⟩) | fail)
local macro_rules | `(tactic| o_reads) => `(tactic| first | with_reducible refine rd_mod ?_ ?_ | fail)
local macro_rules | `(tactic| o_reads) => `(tactic| first | ((with_reducible refine rd_mod ?_ ?_); o_shape) | fail)
local macro_rules | `(tactic| o_reads) => `(tactic| first | with_reducible refine rd_ge ?_ | fail)
local macro_rules | `(tactic| o_reads) => `(tactic| first | with_reducible refine rd_gt ?_ | fail)
local macro_rules | `(tactic| o_reads) => `(tactic| first | with_reducible refine rd_le ?_ | fail)
local macro_rules | `(tactic| o_reads) => `(tactic| first | with_reducible refine rd_lt ?_ | fail)
local macro_rules | `(tactic| o_reads) => `(tactic| first | with_reducible refine rd_neS ?_ | fail)
local macro_rules | `(tactic| o_reads) => `(tactic| first | with_reducible refine rd_neI2 ?_ | fail)
local macro_rules | `(tactic| o_reads) => `(tactic| first | with_reducible refine rd_eqS ?_ | fail)
local macro_rules | `(tactic| o_reads) => `(tactic| first | with_reducible refine rd_eqB ?_ | fail)
local macro_rules | `(tactic| o_reads) => `(tactic| first | with_reducible refine rd_eqI ?_ | fail)
local macro_rules | `(tactic| o_reads) => `(tactic| first | with_reducible refine rd_sub ?_ | fail)
local macro_rules | `(tactic| o_reads) => `(tactic| first | with_reducible refine rd_addI ?_ | fail)
local macro_rules | `(tactic| o_reads) => `(tactic| first | with_reducible refine g_tup rfl ?_ | fail)
local macro_rules | `(tactic| o_reads) => `(tactic| first | with_reducible refine gs_nil ?_ | fail)
local macro_rules | `(tactic| o_reads) => `(tactic| first | with_reducible refine gs_cons ?_ | fail)
local macro_rules | `(tactic| o_reads) => `(tactic| first | with_reducible refine g_name ?_ | fail)
local macro_rules | `(tactic| o_reads) => `(tactic| first | with_reducible refine b_asgG ?_ | fail)
local macro_rules | `(tactic| o_reads) => `(tactic| first | ((with_reducible apply b_aug); exact rfl) | fail)
local macro_rules | `(tactic| o_reads) => `(tactic| first | with_reducible refine b_par ?_ | fail)
local macro_rules | `(tactic| o_reads) => `(tactic| first | with_reducible refine b_drop ?_ | fail)
local macro_rules | `(tactic| o_reads) => `(tactic| first | with_reducible refine b_cont ?_ | fail)
local macro_rules | `(tactic| o_reads) => `(tactic| first | with_reducible refine b_brk ?_ | fail)
local macro_rules | `(tactic| o_reads) => `(tactic| first | with_reducible refine b_retN ?_ | fail)
local macro_rules | `(tactic| o_reads) => `(tactic| first | with_reducible refine b_asg ?_ | fail)
local macro_rules | `(tactic| o_reads) => `(tactic| first | with_reducible refine b_next ?_ | fail)
local macro_rules | `(tactic| o_reads) => `(tactic| first | with_reducible refine b_ret ?_ | fail)
local macro_rules | `(tactic| o_reads) => `(tactic| first | with_reducible refine b_if ?_ | fail)
local macro_rules | `(tactic| o_reads) => `(tactic| first | with_reducible refine b_ifR ?_ ?_ | fail)
local macro_rules | `(tactic| o_reads) => `(tactic| first | with_reducible refine b_seq ?_ | fail)
local macro_rules | `(tactic| o_reads) => `(tactic| first | with_reducible refine ev_chain ?_ | fail)
local macro_rules | `(tactic| o_reads) => `(tactic| first | with_reducible refine ev_if ?_ | fail)
local macro_rules | `(tactic| o_reads) => `(tactic| first | with_reducible refine ev_notV ?_ | fail)
local macro_rules | `(tactic| o_reads) => `(tactic| first | with_reducible refine ev_orV ?_ | fail)
local macro_rules | `(tactic| o_reads) => `(tactic| first | with_reducible refine ev_andV ?_ | fail)
local macro_rules | `(tactic| o_reads) => `(tactic| first | with_reducible refine ev_lst ?_ | fail)
local macro_rules | `(tactic| o_reads) => `(tactic| first | with_reducible refine ev_tup ?_ | fail)
local macro_rules | `(tactic| o_reads) => `(tactic| first | with_reducible refine et_or ?_ | fail)
local macro_rules | `(tactic| o_reads) => `(tactic| first | with_reducible refine et_and ?_ | fail)
local macro_rules | `(tactic| o_reads) => `(tactic| first | with_reducible refine et_not ?_ | fail)
local macro_rules | `(tactic| o_reads) => `(tactic| first | with_reducible refine et_b ?_ | fail)
local macro_rules | `(tactic| o_reads) => `(tactic| first | with_reducible refine et_test ?_ | fail)
local macro_rules | `(tactic| o_reads) => `(tactic| first | with_reducible refine ev_cb ?_ | fail)
local macro_rules | `(tactic| o_reads) => `(tactic| first | with_reducible refine ev_un ?_ | fail)
local macro_rules | `(tactic| o_reads) => `(tactic| first | with_reducible refine ev_op ?_ | fail)
local macro_rules | `(tactic| o_reads) => `(tactic| first | with_reducible refine ea_cons ?_ | fail)
local macro_rules | `(tactic| o_reads) => `(tactic| first | with_reducible refine ea_nil ?_ | fail)
local macro_rules | `(tactic| o_reads) => `(tactic| first | with_reducible refine ev_ty ?_ | fail)
local macro_rules | `(tactic| o_reads) => `(tactic| first | with_reducible refine ev_non ?_ | fail)
local macro_rules | `(tactic| o_reads) => `(tactic| first | with_reducible refine ev_bl ?_ | fail)
local macro_rules | `(tactic| o_reads) => `(tactic| first | with_reducible refine ev_str ?_ | fail)
local macro_rules | `(tactic| o_reads) => `(tactic| first | with_reducible refine ev_int ?_ | fail)
local macro_rules | `(tactic| o_reads) => `(tactic| first | ((with_reducible apply ev_var); exact rfl) | fail)
local macro_rules | `(tactic| o_readsAll) => `(tactic| repeat' o_reads)
def Plan.turned (p : Plan) (s n : Int) : Int := max 0 (s / (p.coming n).1 - (p.coming n).2)
def Plan.asked (p : Plan) (s : Int) : Int := if s = 0 then 0 else min p.cap (s + p.up)
theorem turned_le {p : Plan} (ok : p.Ok) {s n : Int} (hs : 0 ≤ s) : 0 ≤ p.turned s n ∧ p.turned s n ≤ s := by
  obtain ⟨h1, h2, h3, h4⟩ := coming_ok ok n
  unfold Plan.turned
  have h5 : s / (p.coming n).1 ≤ s := Int.ediv_le_self _ hs
  omega
theorem asked_le {p : Plan} (ok : p.Ok) {s : Int} (hs : 0 ≤ s) : 0 ≤ p.asked s ∧ p.asked s ≤ p.cap := by
  have h1 := ok.c1
  have h2 := ok.u1
  unfold Plan.asked
  split <;> omega
def F_check_part (K : PySem.W.Frag) : FSpec := fun ds Φ _ => ∃ (p : Plan) (s l : Int) (pl : D), ds = [waneD K p, .int s, .int l, pl] ∧ (p.Ok ∧ l ≤ s ∧ s ≤ p.cap) ∧ Φ .non
def F_turned (K : PySem.W.Frag) : FSpec := fun ds Φ _ => ∃ (p : Plan) (s n : Int), ds = [waneD K p, .int s, .int n] ∧ (p.Ok ∧ 0 ≤ s ∧ 0 ≤ n) ∧ Φ (.int (p.turned s n))
def F_asked (K : PySem.W.Frag) : FSpec := fun ds Φ _ => ∃ (p : Plan) (s : Int), ds = [waneD K p, .int s] ∧ (p.Ok ∧ 0 ≤ s) ∧ Φ (.int (p.asked s))
def F_waned (K : PySem.W.Frag) : FSpec := fun ds Φ _ => ∃ (p : Plan) (s n : Int), ds = [waneD K p, .int s, .int n] ∧ (p.Ok ∧ 0 ≤ s ∧ s ≤ p.cap ∧ 0 ≤ n ∧ n ≤ 10 ^ 30) ∧ Φ (.int (p.turned s n))
def F_lifted (K : PySem.W.Frag) : FSpec := fun ds Φ _ => ∃ (p : Plan) (s : Int), ds = [waneD K p, .int s] ∧ (p.Ok ∧ 0 ≤ s ∧ s ≤ p.cap) ∧ Φ (.int (p.asked s))
def F_l_phase (_ : PySem.W.Frag) : FSpec := fun ds Φ _ => ∃ (p : Plan) (n : Int), ds = [planD p, .int n] ∧ (p.Ok ∧ 0 ≤ n) ∧ Φ (.int (p.phase n))
def F_l_coming (_ : PySem.W.Frag) : FSpec := fun ds Φ _ => ∃ (p : Plan) (n : Int), ds = [planD p, .int n] ∧ (p.Ok ∧ 0 ≤ n) ∧ Φ (stepD (p.coming n))
def F_l_strength (B : Bg) : FSpec := fun ds Φ _ => ∃ c : Int, ds = [.adr B.b, .int c] ∧ (1 ≤ c ∧ c ≤ 10 ^ 9) ∧ ∀ v : Int, 0 ≤ v → v ≤ c → Φ (.int v)
def t_l_strength (K : PySem.W.Frag) (E : XK) : TS :=
    (tRet (tOp (rIx K) (tLst (tCons (tC (.int 0)) (tCons (tC (.int 1)) (tCons (tCl 2 0 (liftB K F_l_take) gvAll E (tCons (tVar 0) (tCons (tOp (rAddU K) (tVar 1) (tC (.int 1))) tNil)) tNil) (tCons (tVar 1) (tCons (tOp rSubU (tVar 1) (tCl 2 0 (liftB K F_l_take) gvAll E (tCons (tVar 0) (tCons (tOp (rAddU K) (tC (.int 1)) (tOp rDivU (tVar 1) (tC (.int 9)))) tNil)) tNil)) tNil)))))) (tCl 2 0 (liftB K F_l_take) gvAll E (tCons (tVar 0) (tCons (tC (.int 5)) tNil)) tNil)))
def t_l_phase (K : PySem.W.Frag) (E : XK) : TS :=
    (tSeq (tAsg (tSl (rSlU K) (tVar 0) tNoPart (tPart (tC (.int 2)))) (gTup K 2 (gCons (gName 2) (gCons (gName 3) gNil))))
    (tSeq (tIfS (tTest (tOp rLtU (tVar 1) (tOp (rAddU K) (tCB (rLenU K) (tCons (tVar 2) tNil)) (tCB (rLenU K) (tCons (tVar 3) tNil)))))
     (tRet (tVar 1))
     tNext)
    (tRet (tOp (rAddU K) (tCB (rLenU K) (tCons (tVar 2) tNil)) (tOp rModU (tOp rSubU (tVar 1) (tCB (rLenU K) (tCons (tVar 2) tNil))) (tCB (rLenU K) (tCons (tVar 3) tNil)))))))
def t_l_coming (K : PySem.W.Frag) (E : XK) : TS :=
    (tRet (tOp (rIx K) (tOp (rAddU K) (tOp (rIx K) (tVar 0) (tC (.int 0))) (tOp (rIx K) (tVar 0) (tC (.int 1)))) (tCl 2 0 (lift K pureM (F_l_phase K)) gvAll E (tCons (tVar 0) (tCons (tVar 1) tNil)) tNil)))
def t_check_part (K : PySem.W.Frag) (E : XK) : TS :=
    (tSeq (tIfS (tNot (tB (tCB (rIsi K) (tCons (tVar 0) (tCons (tC (.ref (He.ga K "Wane"))) tNil)))))
     tNever
     tNext)
    (tIfS (tNot (tB (tCl 3 0 (lift K pureM (F_is_within K)) gvAll E (tCons (tVar 1) (tCons (tVar 2) (tCons (tFld K (tVar 0) "cap_at") tNil))) tNil)))
     tNever
     tNext))
def t_turned (K : PySem.W.Frag) (E : XK) : TS :=
    (tSeq (tAsg (tMt (He.ga K "Wane") "coming" 1 (lift K pureM (F_Wane_coming K)) gvAll E (tVar 0) (tCons (tVar 2) tNil)) (gTup K 2 (gCons (gName 3) (gCons (gName 4) gNil))))
    (tRet (tCB (rMaxU K) (tCons (tC (.int 0)) (tCons (tOp rSubU (tOp rDivU (tVar 1) (tVar 3)) (tVar 4)) tNil)))))
def t_waned (K : PySem.W.Frag) (E : XK) : TS :=
    (tSeq (tDrop (tCl 4 0 (lift K pureM (F_check_part K)) gvAll E (tCons (tVar 0) (tCons (tVar 1) (tCons (tC (.int 0)) (tCons (tC (.int 0)) tNil)))) tNil))
    (tSeq (tIfS (tNot (tB (tCl 1 0 (lift K pureM (F_is_moment K)) gvAll E (tCons (tVar 2) tNil) tNil)))
     tNever
     tNext)
    (tRet (tCl 3 0 (lift K pureM (F_turned K)) gvAll E (tCons (tVar 0) (tCons (tVar 1) (tCons (tVar 2) tNil))) tNil))))
def t_asked (K : PySem.W.Frag) (E : XK) : TS :=
    (tSeq (tIfS (tTest (tOp (rEqU K) (tVar 1) (tC (.int 0))))
     (tRet (tC (.int 0)))
     tNext)
    (tRet (tCB (rMinU K) (tCons (tFld K (tVar 0) "cap_at") (tCons (tOp (rAddU K) (tVar 1) (tFld K (tVar 0) "lift_by")) tNil)))))
def t_lifted (K : PySem.W.Frag) (E : XK) : TS :=
    (tSeq (tDrop (tCl 4 0 (lift K pureM (F_check_part K)) gvAll E (tCons (tVar 0) (tCons (tVar 1) (tCons (tC (.int 0)) (tCons (tC (.int 0)) tNil)))) tNil))
    (tRet (tCl 2 0 (lift K pureM (F_asked K)) gvAll E (tCons (tVar 0) (tCons (tVar 1) tNil)) tNil)))
theorem pure_l_strength {K : PySem.W.Frag} {vs : List V} {H : Hp} {Q : VK} {E : XK} (h : liftB K F_l_strength vs H Q E) : t_l_strength K E { nx := fun _ H' => Q .non H', rt := Q } (L2.start ["_law_bag_here", "_law_ceiling"] vs) H := by
  obtain ⟨B, h⟩ := h
  exact lift_of (t := t_l_strength K) (fun C ds Φ hK hm hE hn ⟨c, e, ⟨h1, h2⟩, q⟩ => by
    subst hK hE e
    unfold t_l_strength
    o_readsAll
    intro v v1 v2
    o_readsAll
    intro w w1 w2
    o_readsAll
    intro i i1 i2
    refine rd_pick i1 i2 fun d hd => ?_
    simp only [List.mem_cons, List.not_mem_nil, or_false] at hd
    rcases hd with rfl | rfl | rfl | rfl | rfl <;> exact q _ (by omega) (by omega)) h
theorem cut_plan (p : Plan) : cutD [stepsD p.hs, stepsD p.ts, .int p.cap, .int p.up, .bl p.anew] none (some 2) = [stepsD p.hs, stepsD p.ts] := rfl
theorem ev_plan2 {C : Ctx} {δ : List Sl} {te : TE} {Φ : D → Prop} {K : PySem.W.Frag} (hK : K = C.K) (h : EvD C te δ fun d => ∃ p, d = planD p ∧ Φ (.tup [stepsD p.hs, stepsD p.ts])) : EvD C (tSl (rSlU K) te tNoPart (tPart (tC (.int 2)))) δ Φ :=
  ev_cutT hK (h.mono fun d ⟨p, e, q⟩ => eo_none (eo_part (ev_int ⟨2, rfl, _, e, fun z => absurd (show (2 : Nat) = 5 from z.2) (by decide), by rw [cut_plan]; exact q⟩)))
theorem pure_l_phase {K : PySem.W.Frag} {vs : List V} {H : Hp} {Q : VK} {E : XK} (h : lift K pureM (F_l_phase K) vs H Q E) : t_l_phase K E { nx := fun _ H' => Q .non H', rt := Q } (L2.start ["_law_plan_here", "_law_waited", "_law_head", "_law_tail"] vs) H :=
  lift_of (t := t_l_phase K) (fun C ds Φ hK hm hE hn ⟨p, n, e, ⟨ok, hn0⟩, q⟩ => by
    subst hK hE e
    unfold t_l_phase
    have tp := ok.tpos
    unfold Plan.phase at q
    refine b_seq (b_asgG (ev_plan2 rfl (ev_var rfl ⟨p, rfl, ?_⟩)))
    o_readsAll
    · rename_i z
      rw [if_pos z] at q
      exact q
    · rename_i z
      rw [if_neg z] at q
      exact q) h
theorem coming_app {p : Plan} (ok : p.Ok) {n : Int} (hn : 0 ≤ n) : (p.hs.map stepD ++ p.ts.map stepD)[(p.phase n).toNat]? = some (stepD (p.coming n)) := by
  have tp := ok.tpos
  obtain ⟨f1, f2, f3⟩ := phase_le ok hn
  by_cases hl : n < (p.hs.length : Int)
  · rw [phase_lt (by omega), List.getElem?_append_left (by rw [List.length_map]; omega), stepsD_at (by omega)]
    unfold Plan.coming
    rw [if_pos hl]
  · have e := phase_ge ok (by omega : (p.hs.length : Int) ≤ n)
    have h1 : 0 ≤ (n - p.hs.length) % (p.ts.length : Int) := Int.emod_nonneg _ (by omega)
    have h2 : (n - p.hs.length) % (p.ts.length : Int) < p.ts.length := Int.emod_lt_of_pos _ (by omega)
    rw [List.getElem?_append_right (by rw [List.length_map]; omega), List.length_map, stepsD_at (by omega), coming_ge (by omega), show (p.phase n).toNat - p.hs.length = ((n - p.hs.length) % (p.ts.length : Int)).toNat by omega]
theorem pure_l_coming {K : PySem.W.Frag} {vs : List V} {H : Hp} {Q : VK} {E : XK} (h : lift K pureM (F_l_coming K) vs H Q E) : t_l_coming K E { nx := fun _ H' => Q .non H', rt := Q } (L2.start ["_law_plan_here", "_law_waited"] vs) H :=
  lift_of (t := t_l_coming K) (fun C ds Φ hK hm hE hn ⟨p, n, e, ⟨ok, hn0⟩, q⟩ => by
    subst hK hE e
    unfold t_l_coming
    have tp := ok.tpos
    have hl := ok.hl
    obtain ⟨f1, f2, f3⟩ := phase_le ok hn0
    o_readsAll
    refine rd_addL (by rw [List.length_map, List.length_map]; omega) ?_
    o_readsAll
    exact rd_at f1 (coming_app ok hn0) q) h
theorem pure_check_part {K : PySem.W.Frag} (W : WaneK K) (I : Isi K (He.ga K "Wane")) {vs : List V} {H : Hp} {Q : VK} {E : XK} (h : lift K pureM (F_check_part K) vs H Q E) : t_check_part K E { nx := fun _ H' => Q .non H', rt := Q } (L2.start ["wane", "strength", "least", "place"] vs) H :=
  lift_of (t := t_check_part K) (fun C ds Φ hK hm hE hn ⟨p, s, l, pl, e, ⟨ok, h1, h2⟩, q⟩ => by
    subst hK hE e
    unfold t_check_part
    refine b_seq (b_never ?_)
    o_readsAll
    exact q) h
theorem pure_turned {K : PySem.W.Frag} {vs : List V} {H : Hp} {Q : VK} {E : XK} (h : lift K pureM (F_turned K) vs H Q E) : t_turned K E { nx := fun _ H' => Q .non H', rt := Q } (L2.start ["wane", "strength", "since", "by", "take"] vs) H :=
  lift_of (t := t_turned K) (fun C ds Φ hK hm hE hn ⟨p, s, n, e, ⟨ok, h1, h2⟩, q⟩ => by
    subst hK hE e
    unfold t_turned
    obtain ⟨c1, c2, c3, c4⟩ := coming_ok ok n
    refine b_seq (b_asgG (ev_wm rfl (by decide +kernel) (ev_var rfl ⟨p, rfl, ea_cons (ev_var rfl (ea_nil ⟨rfl, p, n, rfl, ⟨ok, h2⟩, g_tup rfl ⟨_, rfl, rfl, ?_⟩⟩))⟩)))
    o_readsAll
    exact q) h
theorem pure_asked {K : PySem.W.Frag} (W : WaneK K) {vs : List V} {H : Hp} {Q : VK} {E : XK} (h : lift K pureM (F_asked K) vs H Q E) : t_asked K E { nx := fun _ H' => Q .non H', rt := Q } (L2.start ["wane", "strength"] vs) H :=
  lift_of (t := t_asked K) (fun C ds Φ hK hm hE hn ⟨p, s, e, ⟨ok, h1⟩, q⟩ => by
    subst hK hE e
    unfold t_asked
    unfold Plan.asked at q
    o_readsAll
    · rename_i z
      rw [if_pos z] at q
      exact q
    · rename_i z
      rw [if_neg z] at q
      exact q) h
theorem pure_waned {K : PySem.W.Frag} {vs : List V} {H : Hp} {Q : VK} {E : XK} (h : lift K pureM (F_waned K) vs H Q E) : t_waned K E { nx := fun _ H' => Q .non H', rt := Q } (L2.start ["wane", "strength", "since"] vs) H :=
  lift_of (t := t_waned K) (fun C ds Φ hK hm hE hn ⟨p, s, n, e, ⟨ok, h1, h2, h3, h4⟩, q⟩ => by
    subst hK hE e
    unfold t_waned
    o_readsAll
    exact q) h
theorem pure_lifted {K : PySem.W.Frag} {vs : List V} {H : Hp} {Q : VK} {E : XK} (h : lift K pureM (F_lifted K) vs H Q E) : t_lifted K E { nx := fun _ H' => Q .non H', rt := Q } (L2.start ["wane", "strength"] vs) H :=
  lift_of (t := t_lifted K) (fun C ds Φ hK hm hE hn ⟨p, s, e, ⟨ok, h1, h2⟩, q⟩ => by
    subst hK hE e
    unfold t_lifted
    o_readsAll
    exact q) h
end Wn
end

section
/-! xs[::-1] of a list. -/
namespace Wn
open PySem PySem.Spec PyProof.Rows L2

def tRev (K : PySem.W.Frag) (te : TE) : TE := fun σ H Q => te σ H fun x H1 => ∃ a xs, x = .ref a ∧ SqL K H1 a xs ∧ ∀ p, H1 p = none → Q (.ref p) (L2.upd H1 p (.lst xs.reverse))
theorem vals_rev : ∀ {vs : List V} {us : List Value}, Vals vs us → Vals vs.reverse us.reverse
  | _, _, .nil => .nil
  | _, _, .cons a t => by
    rw [List.reverse_cons, List.reverse_cons]
    exact (vals_rev t).append (.cons a .nil)
section
variable {X : Cx} {e st : Expr} {te : TE} {pos p2 : Pos}
theorem pe_rev {ops : Addr → Addr → List Value} (he : PE X e te) (hs : PE X st (tUn rNegU (tC (.int 1)))) (hsub : ∀ a b, subscripted (.Slice none none (some st) p2) false (.ref a) (.ref b) = operate (ops a b) (getItem (.ref a) (.ref b)) := by intro a b; with_unfolding_all rfl) : PE X (.Subscript e (.Slice none none (some st) p2) pos) (tRev X.K te) := by
  refine ⟨fun pins s σ H Q I h => ?_⟩
  refine Subscript_ (thn (he.run pins s σ H _ I h) fun v s1 ⟨x, H1, I1, r1, q1⟩ => ?_)
  refine wpAny_Slice ?_
  rw [evalPart_none]
  refine wpAny_pure ?_
  refine wpAny_pure ?_
  rw [evalPart_some]
  refine thn (hs.run pins s1 σ H1 (fun v H' => v = .int (-1) ∧ H' = H1) I1 ⟨1, rfl, rfl, rfl⟩) fun vs s3 ⟨y, H3, I3, r3, q3⟩ => ?_
  obtain ⟨rfl, rfl⟩ := q3
  obtain ⟨t, rfl⟩ := r3
  obtain ⟨a, xs, rfl, hx, q⟩ := q1
  cases r1
  have I4 : Inv X pins σ H3 { s3 with heap := s3.heap.push { cls := .type "slice", data := .fields #[.none, .none, .int (-1) t] } } := I3.kept (t' := s3.toks) fun b ob q => Heap.get?_push_of_some _ q
  obtain ⟨its, r, ht, hz⟩ := I4.list hx
  have hlen := r.length
  show wpAny (model X.prog X.w) X.A (subscriptTail e (.Slice none none (some st) p2) (.ref a) (.ref s3.heap.objs.size)) (EP X pins σ Q) X.xe { s3 with heap := s3.heap.push { cls := .type "slice", data := .fields #[.none, .none, .int (-1) t] } }
  refine tail_any (ops := ops a s3.heap.objs.size) ht.isList.typeIs slot_list_getitem.lookup ?_ (hsub _ _)
  refine wpAny_getItem_list_slice ht.isList (Heap.IsSliceOf.new ..) .none .none (.int (-1) t) (by simp) ?_ (by rw [List.size_toArray] <;> omega)
  rw [PySem.W.krv_pick]
  refine ⟨.ref (s3.heap.push { cls := .type "slice", data := .fields #[.none, .none, .int (-1) t] }).objs.size, _, I4.laid (t' := s3.toks) (o := .lst xs.reverse) (fun b ob q => Heap.get?_push_of_some _ q) (Nat.le_refl _) ?_, rfl, q _ (I4.hok.fresh (Nat.le_refl _))⟩
  exact ⟨by rw [List.length_reverse]; exact hz, _, 0, vals_rev r, Heap.get?_push_size _ rfl⟩
end
section
variable {C : Ctx} {δ : List Sl} {te : TE}
theorem en_rev {K : PySem.W.Frag} {Ψ : List D → Prop} (hK : K = C.K) (h : EvD C te δ fun d => ∃ xs, d = .lst xs ∧ Ψ xs.reverse) : EvN C (tRev K te) δ Ψ := fun fz M σ H en Q k =>
  h fz M σ H en _ fun d v H1 ⟨xs, e, q⟩ e1 x1 d1 => by
    subst hK e
    obtain ⟨a, vs, rfl, n1, g1, dl⟩ := dt_lst d1
    exact ⟨a, vs, rfl, SqL.of g1, fun p hp => en.newl e1 x1 (dtl_rev dl) hp q k⟩
end
section
variable {C : Ctx} {δ : List Sl} {te : TE} {tt : TT}
theorem en_lcR2 {ta : TA} {lo n : Int} {j : Nat} {Φ : List D → Prop} (W : Nat → List D → Prop) (h : EvA C ta δ fun ds => ds = [.int lo, .int n]) (hn : (n - lo).toNat ≤ 99999 ∧ n ≤ 2 ^ 61 ∧ -(2 ^ 61) ≤ n ∧ lo ≤ 2 ^ 61 ∧ -(2 ^ 61) ≤ lo) (hj : ∀ c fs, δ[j]? ≠ some (.new c fs)) (h0 : W 0 [])
    (hs : ∀ (k : Nat) acc, k < (n - lo).toNat → W k acc → EvT C tt (δ.set j (.d (.int (lo + (k : Int))))) fun b => (b = true → EvD C te (δ.set j (.d (.int (lo + (k : Int))))) fun y => W (k + 1) (acc ++ [y])) ∧ (b = false → W (k + 1) acc))
    (hd : ∀ acc, W (n - lo).toNat acc → Φ acc) : EvN C (tLc (iRng2 ta) (gName j) tt te [j]) δ Φ := fun fz M σ H en Q kk =>
  h fz M σ H en _ fun ds vs H1 e e1 x1 d1 => by
    subst e
    cases d1 with
    | cons a b =>
      cases a
      cases b with
      | cons a b =>
      cases a
      cases b
      refine ⟨lo, n, rfl, by omega, fun p hp => ?_⟩
      obtain ⟨L0, no⟩ := LcAt.start e1 hp
      refine lc_range (lo := lo) (n := (n - lo).toNat) (fun k H' => k ≤ (n - lo).toNat ∧ ∃ acc, acc.length ≤ k ∧ W k acc ∧ LcAt C fz M δ σ H1 p acc H') ⟨Nat.zero_le _, [], Nat.le_refl _, h0, L0⟩ (fun k H' hk ⟨_, acc, la, w, L⟩ => ?_) fun H' ⟨_, acc, la, w, L⟩ => ?_
      · refine lc_turn (W := fun acc' => acc'.length ≤ k + 1 ∧ W (k + 1) acc') L hp no hj (.int _) (by omega) ?_ fun acc' H'' ⟨la', w'⟩ L' => ⟨hk, acc', la', w', L'⟩
        intro fz' M' σ' H' en' Q' k'
        refine hs k acc hk w fz' M' σ' H' en' Q' fun b H'' hb e' x' => k' b H'' ⟨fun hbt => ?_, fun hbf => ⟨by omega, hb.2 hbf⟩⟩ e' x'
        exact (hb.1 hbt).mono fun y wy => ⟨by rw [List.length_append]; exact Nat.add_le_add_right la 1, wy⟩
      · obtain ⟨vs, hv, dl⟩ := L.at_
        exact kk acc p vs H' (hd acc w) (back_none en x1 hp e1) L.en (x1.trans L.ext) hv dl

def rgD (a b : Int) : List D := (List.range (b - a).toNat).map fun i => D.int (a + (i : Nat))
theorem dtl_rg {K : PySem.W.Frag} {M : Addr → Prop} {H : Hp} (a b : Int) : DtL K M H (rgV a b) (rgD a b) := by
  unfold rgV rgD
  generalize List.range (b - a).toNat = l
  induction l with
  | nil => exact .nil
  | cons x r ih => exact .cons (.int _) ih
theorem en_listRg {ta : TE} {Ψ : List D → Prop} (h : EvD C ta δ fun d => ∃ n : Int, d = .int n ∧ (n ≤ 100000 ∧ -(10 ^ 6) ≤ n) ∧ Ψ (rgD 0 n)) : EvN C (tLstRg (tRg1 ta)) δ Ψ := fun fz M σ H en Q k =>
  h fz M σ H en _ fun d v H1 ⟨n, e, ⟨h1, h2⟩, q⟩ e1 x1 d1 => by
    subst e
    cases d1
    exact ⟨n, rfl, ⟨by omega, by omega, by omega, by omega, by omega⟩, fun p hp => en.newl e1 x1 (dtl_rg 0 n) hp q k⟩
theorem en_sorted {tr : TA} {K : PySem.W.Frag} {Ψ : List D → Prop} (hK : K = C.K) (h : EvA C tr δ fun ds => ∃ ns : List Int, ds = [.lst (ns.map D.int)] ∧ ∀ ns' : List Int, ns'.Perm ns → ns'.Pairwise (· ≤ ·) → Ψ (ns'.map D.int)) : EvN C (tCB (rSortedI K) tr) δ Ψ := fun fz M σ H en Q k =>
  h fz M σ H en _ fun ds vs H1 ⟨ns, e, q⟩ e1 x1 d1 => by
    subst hK e
    obtain ⟨v, rfl, dv⟩ := dt1 d1
    obtain ⟨a, us, rfl, n1, g1, dl⟩ := dt_lst dv
    have hi : ∀ {us : List V} {ns : List Int}, DtL C.K M H1 us (ns.map D.int) → us = ns.map V.int := by
      intro us ns
      induction ns generalizing us with
      | nil => intro h; cases h; rfl
      | cons n r ih =>
        intro h
        cases h with
        | cons a b =>
          cases a
          rw [ih b]
          rfl
    have hj : ∀ (N : Addr → Prop) (H : Hp) (ns : List Int), DtL C.K N H (ns.map V.int) (ns.map D.int) := by
      intro N H ns
      induction ns with
      | nil => exact .nil
      | cons n r ih => exact .cons (.int _) ih
    have e := hi dl
    subst e
    exact ⟨a, ns, rfl, SqL.of g1, fun ns' p hp hs hn => en.newl e1 x1 (hj _ _ ns') hn (q ns' hp hs) k⟩
end
end Wn
end

section
/-! Rows: what the strengths and sinces are along them. -/
namespace Wn
open PySem PySem.Spec PyProof.Rows L2
local macro_rules | `(tactic| o_shape) => `(tactic| first | assumption | rfl | trivial | omega | decide)
local macro_rules | `(tactic| o_reads) => `(tactic| first | fail "no rule" | fail)
local macro_rules | `(tactic| o_reads) => `(tactic| first | (apply Exists.intro; (repeat apply Exists.intro); exact rfl) | fail)
local macro_rules | `(tactic| o_reads) => `(tactic| first | refine And.intro (by omega) ?_ | fail)
local macro_rules | `(tactic| o_reads) => `(tactic| first | refine And.intro (by assumption) ?_ | fail)
local macro_rules | `(tactic| o_reads) => `(tactic| first | refine And.intro (by assumption : Plan.Ok _) ?_ | fail)
local macro_rules | `(tactic| o_reads) => `(tactic| first | refine ⟨by exact Nat.le_of_ble_eq_true rfl, ?_⟩ | fail)
local macro_rules | `(tactic| o_reads) => `(tactic| first | refine ⟨rfl, ?_⟩ | fail)
local macro_rules | `(tactic| o_reads) => `(tactic| first | refine ⟨_, _, _, _, rfl, ?_⟩ | fail)
local macro_rules | `(tactic| o_reads) => `(tactic| first | refine ⟨_, _, _, rfl, ?_⟩ | fail)
local macro_rules | `(tactic| o_reads) => `(tactic| first | refine ⟨_, _, rfl, ?_⟩ | fail)
local macro_rules | `(tactic| o_reads) => `(tactic| first | refine ⟨_, rfl, ?_⟩ | fail)
local macro_rules | `(tactic| o_reads) => `(tactic| first | refine ⟨⟨by first | decide | omega, by first | decide | omega⟩, ?_⟩ | fail)
local macro_rules | `(tactic| o_reads) => `(tactic| first | with_reducible refine eo_part ?_ | fail)
local macro_rules | `(tactic| o_reads) => `(tactic| first | with_reducible refine eo_none ?_ | fail)
local macro_rules | `(tactic| o_reads) => `(tactic| first | (((with_reducible apply rd_atM); (first | assumption | omega)); assumption) | fail)
local macro_rules | `(tactic| o_reads) => `(tactic| first | refine ⟨fit_step (coming_ok (by assumption) _), ?_⟩ | fail)
local macro_rules | `(tactic| o_reads) => `(tactic| first | refine ⟨fit_int ⟨by omega, by omega⟩, ?_⟩ | fail)
local macro_rules | `(tactic| o_reads) => `(tactic| first | ((with_reducible refine rc_isW ?_ ?_); assumption) | fail)
local macro_rules | `(tactic| o_reads) => `(tactic| first | with_reducible refine ev_adr ?_ | fail)
local macro_rules | `(tactic| o_reads) => `(tactic| first | with_reducible exact rfl | fail)
local macro_rules | `(tactic| o_reads) => `(tactic| first | exact dn_t (by omega) | fail)
local macro_rules | `(tactic| o_reads) => `(tactic| first | exact dn_f (by omega) | fail)
local macro_rules | `(tactic| o_reads) => `(tactic| first | exact decide_eq_true (by omega) | fail)
local macro_rules | `(tactic| o_reads) => `(tactic| first | exact decide_eq_false (by omega) | fail)
local macro_rules | `(tactic| o_reads) => `(tactic| first | exact (rfl : (!true) = false) | fail)
local macro_rules | `(tactic| o_reads) => `(tactic| first | refine sprn (fun z => ?_) (fun z => ?_) | fail)
local macro_rules | `(tactic| o_reads) => `(tactic| first | refine spln (fun z => ?_) (fun z => ?_) | fail)
local macro_rules | `(tactic| o_reads) => `(tactic| first | refine spr (fun z => ?_) (fun z => ?_) | fail)
local macro_rules | `(tactic| o_reads) => `(tactic| first | refine spl (fun z => ?_) (fun z => ?_) | fail)
local macro_rules | `(tactic| o_reads) => `(tactic| first | with_reducible refine spNF ?_ | fail)
local macro_rules | `(tactic| o_reads) => `(tactic| first | with_reducible refine spNT ?_ | fail)
local macro_rules | `(tactic| o_reads) => `(tactic| first | refine sprn (fun _ => ?_) (fun z => absurd z (by omega)) | fail)
local macro_rules | `(tactic| o_reads) => `(tactic| first | refine sprn (fun z => absurd z (by omega)) (fun _ => ?_) | fail)
local macro_rules | `(tactic| o_reads) => `(tactic| first | refine spln (fun _ => ?_) (fun z => absurd z (by omega)) | fail)
local macro_rules | `(tactic| o_reads) => `(tactic| first | refine spln (fun z => absurd z (by omega)) (fun _ => ?_) | fail)
local macro_rules | `(tactic| o_reads) => `(tactic| first | refine spr (fun _ => ?_) (fun z => absurd z (by omega)) | fail)
local macro_rules | `(tactic| o_reads) => `(tactic| first | refine spr (fun z => absurd z (by omega)) (fun _ => ?_) | fail)
local macro_rules | `(tactic| o_reads) => `(tactic| first | refine spl (fun _ => ?_) (fun z => absurd z (by omega)) | fail)
local macro_rules | `(tactic| o_reads) => `(tactic| first | refine spl (fun z => absurd z (by omega)) (fun _ => ?_) | fail)
local macro_rules | `(tactic| o_reads) => `(tactic| first | with_reducible refine sprf ?_ | fail)
local macro_rules | `(tactic| o_reads) => `(tactic| first | with_reducible refine sprt ?_ | fail)
local macro_rules | `(tactic| o_reads) => `(tactic| first | with_reducible refine spff ?_ | fail)
local macro_rules | `(tactic| o_reads) => `(tactic| first | with_reducible refine sptt ?_ | fail)
local macro_rules | `(tactic| o_reads) => `(tactic| first | ((with_reducible refine ev_wm rfl ?_ ?_); decide +kernel) | fail)
local macro_rules | `(tactic| o_reads) => `(tactic| first | ((with_reducible refine ev_anew ?_ ?_); assumption) | fail)
local macro_rules | `(tactic| o_reads) => `(tactic| first | ((with_reducible refine ev_up ?_ ?_); assumption) | fail)
local macro_rules | `(tactic| o_reads) => `(tactic| first | ((with_reducible refine ev_cap ?_ ?_); assumption) | fail)
local macro_rules | `(tactic| o_reads) => `(tactic| first | ((with_reducible refine ev_ts ?_ ?_); assumption) | fail)
local macro_rules | `(tactic| o_reads) => `(tactic| first | ((with_reducible refine ev_hs ?_ ?_); assumption) | fail)
local macro_rules | `(tactic| o_reads) => `(tactic| first | (((with_reducible apply ev_clB (hg := gAll) (hK := rfl)); assumption); assumption) | fail)
local macro_rules | `(tactic| o_reads) => `(tactic| first | (((with_reducible apply ev_tk rfl); assumption); assumption) | fail)
local macro_rules | `(tactic| o_reads) => `(tactic| first | with_reducible refine ev_cl Sub.pure gAll ?_ | fail)
local macro_rules | `(tactic| o_reads) => `(tactic| first | with_reducible refine ev_withinI rfl ?_ | fail)
local macro_rules | `(tactic| o_reads) => `(tactic| first | with_reducible refine ev_strengthI rfl ?_ | fail)
local macro_rules | `(tactic| o_reads) => `(tactic| first | with_reducible refine ev_sizeI rfl ?_ | fail)
local macro_rules | `(tactic| o_reads) => `(tactic| first | with_reducible refine ev_momentI rfl ?_ | fail)
local macro_rules | `(tactic| o_reads) => `(tactic| first | with_reducible refine ev_wholeI rfl ?_ | fail)
local macro_rules | `(tactic| o_reads) => `(tactic| first | with_reducible refine rd_asg ?_ | fail)
local macro_rules | `(tactic| o_reads) => `(tactic| first | with_reducible refine rd_dot ?_ | fail)
local macro_rules | `(tactic| o_reads) => `(tactic| first | with_reducible refine rc_lenRow (by omega) ?_ | fail)
local macro_rules | `(tactic| o_reads) => `(tactic| first | with_reducible refine ev_isrow rfl ?_ | fail)
local macro_rules | `(tactic| o_reads) => `(tactic| first | ((with_reducible refine rc_isS ?_ ?_); first | assumption | (simp [D.tyn]; done) | (apply plainD.ty; assumption)) | fail)
local macro_rules | `(tactic| o_reads) => `(tactic| first | ((with_reducible refine rc_isT ?_ ?_); first | assumption | (simp [D.tyn]; done) | (apply plainD.ty; assumption)) | fail)
local macro_rules | `(tactic| o_reads) => `(tactic| first | ((with_reducible refine rc_isL ?_ ?_); first | assumption | (simp [D.tyn]; done) | (apply plainD.ty; assumption)) | fail)
local macro_rules | `(tactic| o_reads) => `(tactic| first | ((with_reducible refine rc_isB ?_ ?_); first | assumption | (simp [D.tyn]; done) | (apply plainD.ty; assumption)) | fail)
local macro_rules | `(tactic| o_reads) => `(tactic| first | ((with_reducible refine rc_isI ?_ ?_); first | assumption | (simp [D.tyn]; done) | (apply plainD.ty; assumption)) | fail)
local macro_rules | `(tactic| o_reads) => `(tactic| first | with_reducible refine rc_intB ?_ | fail)
local macro_rules | `(tactic| o_reads) => `(tactic| first | with_reducible refine rc_intI ?_ | fail)
local macro_rules | `(tactic| o_reads) => `(tactic| first | with_reducible refine rc_min ?_ | fail)
local macro_rules | `(tactic| o_reads) => `(tactic| first | with_reducible refine rc_max ?_ | fail)
local macro_rules | `(tactic| o_reads) => `(tactic| first | with_reducible refine rc_abs ?_ | fail)
local macro_rules | `(tactic| o_reads) => `(tactic| first | with_reducible refine rc_lenT ?_ | fail)
local macro_rules | `(tactic| o_reads) => `(tactic| first | with_reducible refine rc_lenL ?_ | fail)
local macro_rules | `(tactic| o_reads) => `(tactic| first | with_reducible refine rc_lenD ?_ | fail)
local macro_rules | `(tactic| o_reads) => `(tactic| first | with_reducible refine rd_notN ?_ | fail)
local macro_rules | `(tactic| o_reads) => `(tactic| first | with_reducible refine rd_isN ?_ | fail)
local macro_rules | `(tactic| o_reads) => `(tactic| first | ((with_reducible apply rd_ixL); exact rfl) | fail)
local macro_rules | `(tactic| o_reads) => `(tactic| first | ((with_reducible apply rd_ixT); exact rfl) | fail)
local macro_rules | `(tactic| o_reads) => `(tactic| first | (((with_reducible refine rd_atD ?_ ?_ ?_); (first | assumption | omega)); (first | assumption | omega)) | fail)
local macro_rules | `(tactic| o_reads) => `(tactic| first | with_reducible refine rd_p4 ?_ | fail)
local macro_rules | `(tactic| o_reads) => `(tactic| first | with_reducible refine rd_p3 ?_ | fail)
local macro_rules | `(tactic| o_reads) => `(tactic| first | with_reducible refine rd_p2 ?_ | fail)
local macro_rules | `(tactic| o_reads) => `(tactic| first | with_reducible refine rd_p1 ?_ | fail)
local macro_rules | `(tactic| o_reads) => `(tactic| first | with_reducible refine rd_p0 ?_ | fail)
local macro_rules | `(tactic| o_reads) => `(tactic| first | ((with_reducible refine rd_neg1 ?_ ?_); assumption) | fail)
local macro_rules | `(tactic| o_reads) => `(tactic| first | with_reducible refine rd_s1 ?_ | fail)
local macro_rules | `(tactic| o_reads) => `(tactic| first | with_reducible refine rd_s0 ?_ | fail)
local macro_rules | `(tactic| o_reads) => `(tactic| first | with_reducible refine rd_negT ?_ | fail)
local macro_rules | `(tactic| o_reads) => `(tactic| first | with_reducible refine ru_neg ?_ | fail)
local macro_rules | `(tactic| o_reads) => `(tactic| first | (((with_reducible refine rd_pow ?_ ?_); exact ⟨by decide, by decide, by decide⟩); dsimp only [Int.reduceToNat]) | fail)
local macro_rules | `(tactic| o_reads) => `(tactic| first | with_reducible refine rd_mul ?_ ?_ | fail)
local macro_rules | `(tactic| o_reads) => `(tactic| first | ((with_reducible refine rd_mul ?_ ?_); first | exact .inl ⟨by omega, by omega⟩ | exact .inr ⟨by omega, by omega⟩) | fail)
local macro_rules | `(tactic| o_reads) => `(tactic| first | with_reducible refine rd_div ?_ ?_ | fail)
local macro_rules | `(tactic| o_reads) => `(tactic| first | ((with_reducible refine rd_div ?_ ?_); exact ⟨by o_shape, by first | decide | (apply lg <;> omega)⟩) | fail)
local macro_rules | `(tactic| o_reads) => `(tactic| first | with_reducible refine rd_mod ?_ ?_ | fail)
local macro_rules | `(tactic| o_reads) => `(tactic| first | ((with_reducible refine rd_mod ?_ ?_); o_shape) | fail)
local macro_rules | `(tactic| o_reads) => `(tactic| first | with_reducible refine rd_ge ?_ | fail)
local macro_rules | `(tactic| o_reads) => `(tactic| first | with_reducible refine rd_gt ?_ | fail)
local macro_rules | `(tactic| o_reads) => `(tactic| first | with_reducible refine rd_le ?_ | fail)
local macro_rules | `(tactic| o_reads) => `(tactic| first | with_reducible refine rd_lt ?_ | fail)
local macro_rules | `(tactic| o_reads) => `(tactic| first | with_reducible refine rd_neS ?_ | fail)
local macro_rules | `(tactic| o_reads) => `(tactic| first | with_reducible refine rd_neI2 ?_ | fail)
local macro_rules | `(tactic| o_reads) => `(tactic| first | with_reducible refine rd_eqS ?_ | fail)
local macro_rules | `(tactic| o_reads) => `(tactic| first | with_reducible refine rd_eqB ?_ | fail)
local macro_rules | `(tactic| o_reads) => `(tactic| first | with_reducible refine rd_eqI ?_ | fail)
local macro_rules | `(tactic| o_reads) => `(tactic| first | with_reducible refine rd_sub ?_ | fail)
local macro_rules | `(tactic| o_reads) => `(tactic| first | with_reducible refine rd_addI ?_ | fail)
local macro_rules | `(tactic| o_reads) => `(tactic| first | with_reducible refine g_tup rfl ?_ | fail)
local macro_rules | `(tactic| o_reads) => `(tactic| first | with_reducible refine gs_nil ?_ | fail)
local macro_rules | `(tactic| o_reads) => `(tactic| first | with_reducible refine gs_cons ?_ | fail)
local macro_rules | `(tactic| o_reads) => `(tactic| first | with_reducible refine g_name ?_ | fail)
local macro_rules | `(tactic| o_reads) => `(tactic| first | ((fail_if_success (with_reducible refine b_asgLst ?_)); (with_reducible refine b_asgG ?_)) | fail)
local macro_rules | `(tactic| o_reads) => `(tactic| first | ((with_reducible apply b_aug); exact rfl) | fail)
local macro_rules | `(tactic| o_reads) => `(tactic| first | with_reducible refine b_par ?_ | fail)
local macro_rules | `(tactic| o_reads) => `(tactic| first | with_reducible refine b_drop ?_ | fail)
local macro_rules | `(tactic| o_reads) => `(tactic| first | ((with_reducible apply b_ext rfl); exact rfl) | fail)
local macro_rules | `(tactic| o_reads) => `(tactic| first | ((with_reducible apply b_clr rfl); exact rfl) | fail)
local macro_rules | `(tactic| o_reads) => `(tactic| first | ((with_reducible apply b_rev rfl); exact rfl) | fail)
local macro_rules | `(tactic| o_reads) => `(tactic| first | ((with_reducible apply b_app rfl); exact rfl) | fail)
local macro_rules | `(tactic| o_reads) => `(tactic| first | with_reducible refine b_cont ?_ | fail)
local macro_rules | `(tactic| o_reads) => `(tactic| first | with_reducible refine b_brk ?_ | fail)
local macro_rules | `(tactic| o_reads) => `(tactic| first | with_reducible refine b_retN ?_ | fail)
local macro_rules | `(tactic| o_reads) => `(tactic| first | ((fail_if_success (with_reducible refine b_asgLst ?_)); (with_reducible refine b_asg ?_)) | fail)
local macro_rules | `(tactic| o_reads) => `(tactic| first | with_reducible refine b_next ?_ | fail)
local macro_rules | `(tactic| o_reads) => `(tactic| first | with_reducible refine b_ret ?_ | fail)
local macro_rules | `(tactic| o_reads) => `(tactic| first | with_reducible refine b_if ?_ | fail)
local macro_rules | `(tactic| o_reads) => `(tactic| first | with_reducible refine b_ifR ?_ ?_ | fail)
local macro_rules | `(tactic| o_reads) => `(tactic| first | with_reducible refine b_seq ?_ | fail)
local macro_rules | `(tactic| o_reads) => `(tactic| first | with_reducible refine ev_chain ?_ | fail)
local macro_rules | `(tactic| o_reads) => `(tactic| first | with_reducible refine ev_if ?_ | fail)
local macro_rules | `(tactic| o_reads) => `(tactic| first | with_reducible refine ev_notV ?_ | fail)
local macro_rules | `(tactic| o_reads) => `(tactic| first | with_reducible refine ev_orV ?_ | fail)
local macro_rules | `(tactic| o_reads) => `(tactic| first | with_reducible refine ev_andV ?_ | fail)
local macro_rules | `(tactic| o_reads) => `(tactic| first | with_reducible refine ev_lst ?_ | fail)
local macro_rules | `(tactic| o_reads) => `(tactic| first | with_reducible refine ev_tup ?_ | fail)
local macro_rules | `(tactic| o_reads) => `(tactic| first | with_reducible refine et_or ?_ | fail)
local macro_rules | `(tactic| o_reads) => `(tactic| first | with_reducible refine et_and ?_ | fail)
local macro_rules | `(tactic| o_reads) => `(tactic| first | with_reducible refine et_not ?_ | fail)
local macro_rules | `(tactic| o_reads) => `(tactic| first | with_reducible refine et_b ?_ | fail)
local macro_rules | `(tactic| o_reads) => `(tactic| first | with_reducible refine et_test ?_ | fail)
local macro_rules | `(tactic| o_reads) => `(tactic| first | with_reducible refine ev_cb ?_ | fail)
local macro_rules | `(tactic| o_reads) => `(tactic| first | with_reducible refine ev_un ?_ | fail)
local macro_rules | `(tactic| o_reads) => `(tactic| first | with_reducible refine ev_op ?_ | fail)
local macro_rules | `(tactic| o_reads) => `(tactic| first | with_reducible refine ea_cons ?_ | fail)
local macro_rules | `(tactic| o_reads) => `(tactic| first | with_reducible refine ea_nil ?_ | fail)
local macro_rules | `(tactic| o_reads) => `(tactic| first | with_reducible refine ev_ty ?_ | fail)
local macro_rules | `(tactic| o_reads) => `(tactic| first | with_reducible refine ev_non ?_ | fail)
local macro_rules | `(tactic| o_reads) => `(tactic| first | with_reducible refine ev_bl ?_ | fail)
local macro_rules | `(tactic| o_reads) => `(tactic| first | with_reducible refine ev_str ?_ | fail)
local macro_rules | `(tactic| o_reads) => `(tactic| first | with_reducible refine ev_int ?_ | fail)
local macro_rules | `(tactic| o_reads) => `(tactic| first | ((with_reducible apply ev_var); exact rfl) | fail)
local macro_rules | `(tactic| o_readsAll) => `(tactic| repeat' o_reads)
/-! ### states along a row -/
def Plan.after (p : Plan) (x : Int × Int) (b : Bool) : Int × Int := if b then (p.asked x.1, if p.anew then 0 else x.2) else (p.turned x.1 x.2, x.2 + 1)
def Plan.fin (p : Plan) (x : Int × Int) (l : List Bool) : Int × Int := l.foldl p.after x
def Plan.trace (p : Plan) : Int × Int → List Bool → List (Int × Int)
  | x, [] => [x]
  | x, b :: r => x :: p.trace (p.after x b) r
theorem fin_snoc (p : Plan) (x : Int × Int) (l : List Bool) (b : Bool) : p.fin x (l ++ [b]) = p.after (p.fin x l) b := by simp [Plan.fin, List.foldl_append]
theorem fin_app (p : Plan) (x : Int × Int) (l m : List Bool) : p.fin x (l ++ m) = p.fin (p.fin x l) m := by simp [Plan.fin, List.foldl_append]
theorem trace_snoc (p : Plan) (b : Bool) : ∀ (l : List Bool) (x : Int × Int), p.trace x (l ++ [b]) = p.trace x l ++ [p.after (p.fin x l) b]
  | [], x => rfl
  | c :: r, x => by
    show x :: p.trace (p.after x c) (r ++ [b]) = x :: (p.trace (p.after x c) r ++ [p.after (p.fin (p.after x c) r) b])
    rw [trace_snoc p b r]
theorem trace_len (p : Plan) : ∀ (l : List Bool) (x : Int × Int), (p.trace x l).length = l.length + 1
  | [], x => rfl
  | c :: r, x => by
    show (p.trace (p.after x c) r).length + 1 = _
    rw [trace_len p r]
    rfl
theorem trace_at (p : Plan) : ∀ (l : List Bool) (x : Int × Int) (k : Nat), k ≤ l.length → (p.trace x l)[k]? = some (p.fin x (l.take k))
  | [], x, k, h => by
    have : k = 0 := by simpa using h
    subst this
    rfl
  | c :: r, x, 0, h => rfl
  | c :: r, x, k + 1, h => by
    show (p.trace (p.after x c) r)[k]? = _
    rw [trace_at p r _ k (Nat.le_of_succ_le_succ h)]
    rfl
theorem take_snoc {α : Type} {l : List α} {k : Nat} {b : α} (h : l[k]? = some b) : l.take (k + 1) = l.take k ++ [b] := by rw [List.take_succ, h]; rfl
theorem fin_snd (p : Plan) : ∀ (l : List Bool) (s s' n : Int), (p.fin (s, n) l).2 = (p.fin (s', n) l).2
  | [], _, _, _ => rfl
  | true :: r, s, s', n => fin_snd p r _ _ _
  | false :: r, s, s', n => fin_snd p r _ _ _
def StOk (p : Plan) (x : Int × Int) : Prop := 0 ≤ x.1 ∧ x.1 ≤ p.cap ∧ 0 ≤ x.2
theorem after_ok {p : Plan} (ok : p.Ok) {x : Int × Int} (h : StOk p x) (b : Bool) : StOk p (p.after x b) := by
  obtain ⟨h1, h2, h3⟩ := h
  obtain ⟨t1, t2⟩ := turned_le ok (n := x.2) h1
  obtain ⟨a1, a2⟩ := asked_le ok h1
  unfold Plan.after
  cases b with
  | true =>
    refine ⟨a1, a2, ?_⟩
    show 0 ≤ (if p.anew = true then 0 else x.2)
    split <;> omega
  | false => exact ⟨t1, Int.le_trans t2 h2, by show 0 ≤ x.2 + 1; omega⟩
theorem after_n {p : Plan} {x : Int × Int} (h : 0 ≤ x.2) (b : Bool) : 0 ≤ (p.after x b).2 ∧ (p.after x b).2 ≤ x.2 + 1 := by
  unfold Plan.after
  cases b with
  | true =>
    show 0 ≤ (if p.anew = true then 0 else x.2) ∧ (if p.anew = true then 0 else x.2) ≤ x.2 + 1
    split <;> omega
  | false => exact ⟨by show 0 ≤ x.2 + 1; omega, Int.le_refl _⟩
theorem fin_ok {p : Plan} (ok : p.Ok) : ∀ (l : List Bool) {x : Int × Int}, StOk p x → StOk p (p.fin x l)
  | [], _, h => h
  | b :: r, _, h => fin_ok ok r (after_ok ok h b)
theorem fin_n {p : Plan} : ∀ (l : List Bool) {x : Int × Int}, 0 ≤ x.2 → 0 ≤ (p.fin x l).2 ∧ (p.fin x l).2 ≤ x.2 + l.length
  | [], x, h => ⟨h, by show x.2 ≤ x.2 + (0 : Nat); omega⟩
  | b :: r, x, h => by
    have h1 := after_n (p := p) h b
    have h2 := fin_n (p := p) r h1.1
    refine ⟨h2.1, ?_⟩
    have h3 : (p.fin x (b :: r)).2 ≤ (p.after x b).2 + r.length := h2.2
    simp only [List.length_cons]
    omega
theorem pairD_ok {s : Int × Int} (h : -(10 ^ 60) ≤ s.1 ∧ s.1 ≤ 10 ^ 60 ∧ -(10 ^ 60) ≤ s.2 ∧ s.2 ≤ 10 ^ 60) (n : Nat) : D.ok (n + 1) (stepD s) = true := by
  obtain ⟨h1, h2, h3, h4⟩ := h
  show D.oks n [.int s.1, .int s.2] = true
  exact oks_iff fun x hx => by
    simp only [List.mem_cons, List.not_mem_nil, or_false] at hx
    rcases hx with rfl | rfl
    · exact ok_int ⟨by omega, by omega⟩
    · exact ok_int ⟨by omega, by omega⟩
theorem fit_pair {s : Int × Int} (h : -(10 ^ 60) ≤ s.1 ∧ s.1 ≤ 10 ^ 60 ∧ -(10 ^ 60) ≤ s.2 ∧ s.2 ≤ 10 ^ 60) : Fit (stepD s) := ⟨pairD_ok h 29, by rw [step_wt]; decide⟩
theorem fit_pairs {l : List (Int × Int)} (hl : l.length ≤ 2000) (h : ∀ s ∈ l, -(10 ^ 60) ≤ s.1 ∧ s.1 ≤ 10 ^ 60 ∧ -(10 ^ 60) ≤ s.2 ∧ s.2 ≤ 10 ^ 60) : Fit (stepsD l) := by
  refine ⟨?_, Nat.le_trans (steps_wt l) (by omega)⟩
  show D.oks 29 (l.map stepD) = true
  exact oks_iff fun x hx => by
    obtain ⟨s, hs, rfl⟩ := List.mem_map.mp hx
    exact pairD_ok (h s hs) 28
theorem mem_trace {p : Plan} {x y : Int × Int} {l : List Bool} (h : y ∈ p.trace x l) : ∃ k, k ≤ l.length ∧ y = p.fin x (l.take k) := by
  obtain ⟨k, hk⟩ := List.getElem?_of_mem h
  have hl := lt_of_some hk
  rw [trace_len] at hl
  refine ⟨k, by omega, ?_⟩
  rw [trace_at p l x k (by omega)] at hk
  exact (Option.some.inj hk).symm
theorem fit_trace {p : Plan} (ok : p.Ok) {x : Int × Int} {l : List Bool} (h : StOk p x) (hn : x.2 ≤ 10 ^ 31) (hl : l.length ≤ 1000) : Fit (stepsD (p.trace x l)) := by
  have c2 := ok.c2
  refine fit_pairs (by rw [trace_len]; omega) fun s hs => ?_
  obtain ⟨k, hk, rfl⟩ := mem_trace hs
  obtain ⟨f1, f2, f3⟩ := fin_ok ok (l.take k) h
  have f4 := (fin_n (p := p) (l.take k) h.2.2).2
  have : (l.take k).length ≤ l.length := by rw [List.length_take]; omega
  exact ⟨by omega, by omega, by omega, by omega⟩
/-! ### texts that are rows -/
def rowB : D → Bool
  | .str x => decide (x.length ≤ 200) && x.cps.toList.all fun c => decide (c ∈ [46, 97])
  | _ => false
def F_is_row (_ : PySem.W.Frag) : FSpec := fun ds Φ _ => ∃ d, ds = [d] ∧ (d.tyn ≠ "" ∧ ∀ x, d = .str x → x.length ≤ 16777216) ∧ Φ (.bl (rowB d))
def t_is_row (K : PySem.W.Frag) (E : XK) : TS :=
    (tSeq (tIfS (tOr (tNot (tB (tCB (rIsi K) (tCons (tVar 0) (tCons (tC (.ty "str")) tNil))))) (tTest (tOp rGtU (tCB (rLenU K) (tCons (tVar 0) tNil)) (tC (.int (200))))))
     (tRet (tC (.bl false)))
     tNext)
    (tRet (tCB (rAll K) (tCons (tLc (iU K (tVar 0)) (gName 1) tYes (tOp (rInU K) (tVar 1) (tC (.str ".a"))) [1]) tNil))))
theorem dot_a : (".a" : Str).cps.toList = [46, 97] := by decide +kernel
theorem pure_is_row {K : PySem.W.Frag} {vs : List V} {H : Hp} {Q : VK} {E : XK} (h : lift K pureM (F_is_row K) vs H Q E) : t_is_row K E { nx := fun _ H' => Q .non H', rt := Q } (L2.start ["thing", "sign"] vs) H :=
  lift_of (t := t_is_row K) (fun C ds Φ hK hm hE hn ⟨d, e, ⟨ty, hz⟩, q⟩ => by
    subst hK hE e
    unfold t_is_row
    by_cases hs : d.isS = true
    · obtain ⟨x, rfl⟩ : ∃ x, d = .str x := by cases d <;> first | exact ⟨_, rfl⟩ | cases hs
      have hx := hz x rfl
      refine b_seq (b_if (et_or (et_not (et_b (ev_cb (ea_cons (ev_var rfl (ea_cons (ev_ty (ea_nil (rc_isS ty ⟨_, rfl, fun _ => ?_, fun z => (by cases z)⟩)))))))))))
      refine et_test (ev_op (ev_cb (ea_cons (ev_var rfl (ea_nil (rc_lenS (by rw [sizeLine_eq]; exact hx) (ev_int (rd_gt ⟨_, rfl, ?_⟩))))))))
      by_cases hl : x.length ≤ 200
      · refine ⟨fun z => absurd (of_decide_eq_true z) (by omega), fun _ => b_next (b_ret ?_)⟩
        refine ev_cb (ea_cons (ev_new (en_uS (en_lcS (z := x) (fun k acc => acc = (x.cps.toList.take k).map fun c => D.bl (decide (c ∈ [46, 97]))) (ev_var rfl rfl) ?_ (noNew (s := .no) rfl fun _ _ z => (by cases z)) rfl ?_ ?_))))
        · have : x.cps.size = x.length := rfl
          omega
        · rintro k c acc hc rfl
          refine et_yes ⟨fun _ => ev_op (ev_var rfl (ev_str (rd_inS ?_))), fun z => (by cases z)⟩
          rw [dot_a]
          exact (take_all _ _ _ _ hc).symm
        · rintro acc rfl
          rw [List.take_length]
          refine ea_nil (rc_all (bs := x.cps.toList.map fun c => decide (c ∈ [46, 97])) (by rw [List.map_map]; rfl) ?_)
          rw [List.all_map]
          have e : rowB (.str x) = x.cps.toList.all fun c => decide (c ∈ [46, 97]) := by
            show (decide (x.length ≤ 200) && _) = _
            rw [decide_eq_true hl, Bool.true_and]
          rw [e] at q
          exact q
      · refine ⟨fun _ => b_ret (ev_bl ?_), fun z => absurd (of_decide_eq_false z) (by omega)⟩
        have e : rowB (.str x) = false := by
          show (decide (x.length ≤ 200) && _) = _
          rw [decide_eq_false hl, Bool.false_and]
        rw [e] at q
        exact q
    · have hf : d.isS = false := by simpa using hs
      refine b_seq (b_if (et_or (et_not (et_b (ev_cb (ea_cons (ev_var rfl (ea_cons (ev_ty (ea_nil (rc_isS ty ⟨_, rfl, fun z => ?_, fun _ => ⟨fun _ => b_ret (ev_bl ?_), fun z => (by cases z)⟩⟩)))))))))))
      · rw [hf] at z
        cases z
      · have e : rowB d = false := by cases d <;> first | rfl | cases hf
        rw [e] at q
        exact q) h
theorem rowB_row (l : List Bool) : rowB (rowD l) = decide (l.length ≤ 200) := by
  show (decide ((rowS l).length ≤ 200) && (rowS l).cps.toList.all fun c => decide (c ∈ [46, 97])) = _
  rw [row_len, row_cps, List.all_map]
  have e : l.all ((fun c => decide (c ∈ [46, 97])) ∘ sg) = true := by
    rw [List.all_eq_true]
    intro b _
    cases b <;> rfl
  rw [e, Bool.and_true]
section
variable {C : Ctx} {δ : List Sl} {ta : TE} {Φ : D → Prop} {K : PySem.W.Frag}
theorem ev_isrow (hK : K = C.K) (h : EvD C ta δ fun d => ∃ l : List Bool, d = rowD l ∧ l.length ≤ 10000 ∧ Φ (.bl (decide (l.length ≤ 200)))) : EvD C (tCl 1 0 (lift K pureM (F_is_row K)) gvAll C.E (tCons ta tNil) tNil) δ Φ := by
  subst hK
  refine ev_cl Sub.pure gAll (ea_cons (h.mono fun d ⟨l, e, hl, q⟩ => ea_nil (ea_nil ⟨rfl, rfl, d, rfl, ⟨by rw [e]; simp [D.tyn, rowD], fun x ex => ?_⟩, by rw [e, rowB_row]; exact q⟩)))
  rw [e] at ex
  cases ex
  rw [row_len]
  omega
end
local macro_rules | `(tactic| o_shape) => `(tactic| first | assumption | rfl | trivial | omega | decide)
local macro_rules | `(tactic| o_reads) => `(tactic| first | fail "no rule" | fail)
local macro_rules | `(tactic| o_reads) => `(tactic| first | (apply Exists.intro; (repeat apply Exists.intro); exact rfl) | fail)
local macro_rules | `(tactic| o_reads) => `(tactic| first | refine And.intro (by omega) ?_ | fail)
local macro_rules | `(tactic| o_reads) => `(tactic| first | refine And.intro (by assumption) ?_ | fail)
local macro_rules | `(tactic| o_reads) => `(tactic| first | refine And.intro (by assumption : Plan.Ok _) ?_ | fail)
local macro_rules | `(tactic| o_reads) => `(tactic| first | refine ⟨by exact Nat.le_of_ble_eq_true rfl, ?_⟩ | fail)
local macro_rules | `(tactic| o_reads) => `(tactic| first | refine ⟨rfl, ?_⟩ | fail)
local macro_rules | `(tactic| o_reads) => `(tactic| first | refine ⟨_, _, _, _, rfl, ?_⟩ | fail)
local macro_rules | `(tactic| o_reads) => `(tactic| first | refine ⟨_, _, _, rfl, ?_⟩ | fail)
local macro_rules | `(tactic| o_reads) => `(tactic| first | refine ⟨_, _, rfl, ?_⟩ | fail)
local macro_rules | `(tactic| o_reads) => `(tactic| first | refine ⟨_, rfl, ?_⟩ | fail)
local macro_rules | `(tactic| o_reads) => `(tactic| first | refine ⟨⟨by first | decide | omega, by first | decide | omega⟩, ?_⟩ | fail)
local macro_rules | `(tactic| o_reads) => `(tactic| first | with_reducible refine eo_part ?_ | fail)
local macro_rules | `(tactic| o_reads) => `(tactic| first | with_reducible refine eo_none ?_ | fail)
local macro_rules | `(tactic| o_reads) => `(tactic| first | (((with_reducible apply rd_atM); (first | assumption | omega)); assumption) | fail)
local macro_rules | `(tactic| o_reads) => `(tactic| first | refine ⟨fit_step (coming_ok (by assumption) _), ?_⟩ | fail)
local macro_rules | `(tactic| o_reads) => `(tactic| first | refine ⟨fit_int ⟨by omega, by omega⟩, ?_⟩ | fail)
local macro_rules | `(tactic| o_reads) => `(tactic| first | ((with_reducible refine rc_isW ?_ ?_); assumption) | fail)
local macro_rules | `(tactic| o_reads) => `(tactic| first | with_reducible refine ev_adr ?_ | fail)
local macro_rules | `(tactic| o_reads) => `(tactic| first | with_reducible exact rfl | fail)
local macro_rules | `(tactic| o_reads) => `(tactic| first | exact dn_t (by omega) | fail)
local macro_rules | `(tactic| o_reads) => `(tactic| first | exact dn_f (by omega) | fail)
local macro_rules | `(tactic| o_reads) => `(tactic| first | exact decide_eq_true (by omega) | fail)
local macro_rules | `(tactic| o_reads) => `(tactic| first | exact decide_eq_false (by omega) | fail)
local macro_rules | `(tactic| o_reads) => `(tactic| first | exact (rfl : (!true) = false) | fail)
local macro_rules | `(tactic| o_reads) => `(tactic| first | refine sprn (fun z => ?_) (fun z => ?_) | fail)
local macro_rules | `(tactic| o_reads) => `(tactic| first | refine spln (fun z => ?_) (fun z => ?_) | fail)
local macro_rules | `(tactic| o_reads) => `(tactic| first | refine spr (fun z => ?_) (fun z => ?_) | fail)
local macro_rules | `(tactic| o_reads) => `(tactic| first | refine spl (fun z => ?_) (fun z => ?_) | fail)
local macro_rules | `(tactic| o_reads) => `(tactic| first | with_reducible refine spNF ?_ | fail)
local macro_rules | `(tactic| o_reads) => `(tactic| first | with_reducible refine spNT ?_ | fail)
local macro_rules | `(tactic| o_reads) => `(tactic| first | refine sprn (fun _ => ?_) (fun z => absurd z (by omega)) | fail)
local macro_rules | `(tactic| o_reads) => `(tactic| first | refine sprn (fun z => absurd z (by omega)) (fun _ => ?_) | fail)
local macro_rules | `(tactic| o_reads) => `(tactic| first | refine spln (fun _ => ?_) (fun z => absurd z (by omega)) | fail)
local macro_rules | `(tactic| o_reads) => `(tactic| first | refine spln (fun z => absurd z (by omega)) (fun _ => ?_) | fail)
local macro_rules | `(tactic| o_reads) => `(tactic| first | refine spr (fun _ => ?_) (fun z => absurd z (by omega)) | fail)
local macro_rules | `(tactic| o_reads) => `(tactic| first | refine spr (fun z => absurd z (by omega)) (fun _ => ?_) | fail)
local macro_rules | `(tactic| o_reads) => `(tactic| first | refine spl (fun _ => ?_) (fun z => absurd z (by omega)) | fail)
local macro_rules | `(tactic| o_reads) => `(tactic| first | refine spl (fun z => absurd z (by omega)) (fun _ => ?_) | fail)
local macro_rules | `(tactic| o_reads) => `(tactic| first | with_reducible refine sprf ?_ | fail)
local macro_rules | `(tactic| o_reads) => `(tactic| first | with_reducible refine sprt ?_ | fail)
local macro_rules | `(tactic| o_reads) => `(tactic| first | with_reducible refine spff ?_ | fail)
local macro_rules | `(tactic| o_reads) => `(tactic| first | with_reducible refine sptt ?_ | fail)
local macro_rules | `(tactic| o_reads) => `(tactic| first | ((with_reducible refine ev_wm rfl ?_ ?_); decide +kernel) | fail)
local macro_rules | `(tactic| o_reads) => `(tactic| first | ((with_reducible refine ev_anew ?_ ?_); assumption) | fail)
local macro_rules | `(tactic| o_reads) => `(tactic| first | ((with_reducible refine ev_up ?_ ?_); assumption) | fail)
local macro_rules | `(tactic| o_reads) => `(tactic| first | ((with_reducible refine ev_cap ?_ ?_); assumption) | fail)
local macro_rules | `(tactic| o_reads) => `(tactic| first | ((with_reducible refine ev_ts ?_ ?_); assumption) | fail)
local macro_rules | `(tactic| o_reads) => `(tactic| first | ((with_reducible refine ev_hs ?_ ?_); assumption) | fail)
local macro_rules | `(tactic| o_reads) => `(tactic| first | (((with_reducible apply ev_clB (hg := gAll) (hK := rfl)); assumption); assumption) | fail)
local macro_rules | `(tactic| o_reads) => `(tactic| first | (((with_reducible apply ev_tk rfl); assumption); assumption) | fail)
local macro_rules | `(tactic| o_reads) => `(tactic| first | with_reducible refine ev_cl Sub.pure gAll ?_ | fail)
local macro_rules | `(tactic| o_reads) => `(tactic| first | with_reducible refine ev_withinI rfl ?_ | fail)
local macro_rules | `(tactic| o_reads) => `(tactic| first | with_reducible refine ev_strengthI rfl ?_ | fail)
local macro_rules | `(tactic| o_reads) => `(tactic| first | with_reducible refine ev_sizeI rfl ?_ | fail)
local macro_rules | `(tactic| o_reads) => `(tactic| first | with_reducible refine ev_momentI rfl ?_ | fail)
local macro_rules | `(tactic| o_reads) => `(tactic| first | with_reducible refine ev_wholeI rfl ?_ | fail)
local macro_rules | `(tactic| o_reads) => `(tactic| first | with_reducible refine rd_asg ?_ | fail)
local macro_rules | `(tactic| o_reads) => `(tactic| first | with_reducible refine rd_dot ?_ | fail)
local macro_rules | `(tactic| o_reads) => `(tactic| first | with_reducible refine rc_lenRow (by omega) ?_ | fail)
local macro_rules | `(tactic| o_reads) => `(tactic| first | with_reducible refine ev_isrow rfl ?_ | fail)
local macro_rules | `(tactic| o_reads) => `(tactic| first | ((with_reducible refine rc_isS ?_ ?_); first | assumption | (simp [D.tyn]; done) | (apply plainD.ty; assumption)) | fail)
local macro_rules | `(tactic| o_reads) => `(tactic| first | ((with_reducible refine rc_isT ?_ ?_); first | assumption | (simp [D.tyn]; done) | (apply plainD.ty; assumption)) | fail)
local macro_rules | `(tactic| o_reads) => `(tactic| first | ((with_reducible refine rc_isL ?_ ?_); first | assumption | (simp [D.tyn]; done) | (apply plainD.ty; assumption)) | fail)
local macro_rules | `(tactic| o_reads) => `(tactic| first | ((with_reducible refine rc_isB ?_ ?_); first | assumption | (simp [D.tyn]; done) | (apply plainD.ty; assumption)) | fail)
local macro_rules | `(tactic| o_reads) => `(tactic| first | ((with_reducible refine rc_isI ?_ ?_); first | assumption | (simp [D.tyn]; done) | (apply plainD.ty; assumption)) | fail)
local macro_rules | `(tactic| o_reads) => `(tactic| first | with_reducible refine rc_intB ?_ | fail)
local macro_rules | `(tactic| o_reads) => `(tactic| first | with_reducible refine rc_intI ?_ | fail)
local macro_rules | `(tactic| o_reads) => `(tactic| first | with_reducible refine rc_min ?_ | fail)
local macro_rules | `(tactic| o_reads) => `(tactic| first | with_reducible refine rc_max ?_ | fail)
local macro_rules | `(tactic| o_reads) => `(tactic| first | with_reducible refine rc_abs ?_ | fail)
local macro_rules | `(tactic| o_reads) => `(tactic| first | with_reducible refine rc_lenT ?_ | fail)
local macro_rules | `(tactic| o_reads) => `(tactic| first | with_reducible refine rc_lenL ?_ | fail)
local macro_rules | `(tactic| o_reads) => `(tactic| first | with_reducible refine rc_lenD ?_ | fail)
local macro_rules | `(tactic| o_reads) => `(tactic| first | with_reducible refine rd_notN ?_ | fail)
local macro_rules | `(tactic| o_reads) => `(tactic| first | with_reducible refine rd_isN ?_ | fail)
local macro_rules | `(tactic| o_reads) => `(tactic| first | ((with_reducible apply rd_ixL); exact rfl) | fail)
local macro_rules | `(tactic| o_reads) => `(tactic| first | ((with_reducible apply rd_ixT); exact rfl) | fail)
local macro_rules | `(tactic| o_reads) => `(tactic| first | (((with_reducible refine rd_atD ?_ ?_ ?_); (first | assumption | omega)); (first | assumption | omega)) | fail)
local macro_rules | `(tactic| o_reads) => `(tactic| first | with_reducible refine rd_p4 ?_ | fail)
local macro_rules | `(tactic| o_reads) => `(tactic| first | with_reducible refine rd_p3 ?_ | fail)
local macro_rules | `(tactic| o_reads) => `(tactic| first | with_reducible refine rd_p2 ?_ | fail)
local macro_rules | `(tactic| o_reads) => `(tactic| first | with_reducible refine rd_p1 ?_ | fail)
local macro_rules | `(tactic| o_reads) => `(tactic| first | with_reducible refine rd_p0 ?_ | fail)
local macro_rules | `(tactic| o_reads) => `(tactic| first | ((with_reducible refine rd_neg1 ?_ ?_); assumption) | fail)
local macro_rules | `(tactic| o_reads) => `(tactic| first | with_reducible refine rd_s1 ?_ | fail)
local macro_rules | `(tactic| o_reads) => `(tactic| first | with_reducible refine rd_s0 ?_ | fail)
local macro_rules | `(tactic| o_reads) => `(tactic| first | with_reducible refine rd_negT ?_ | fail)
local macro_rules | `(tactic| o_reads) => `(tactic| first | with_reducible refine ru_neg ?_ | fail)
local macro_rules | `(tactic| o_reads) => `(tactic| first | (((with_reducible refine rd_pow ?_ ?_); exact ⟨by decide, by decide, by decide⟩); dsimp only [Int.reduceToNat]) | fail)
local macro_rules | `(tactic| o_reads) => `(tactic| first | with_reducible refine rd_mul ?_ ?_ | fail)
local macro_rules | `(tactic| o_reads) => `(tactic| first | ((with_reducible refine rd_mul ?_ ?_); first | exact .inl ⟨by omega, by omega⟩ | exact .inr ⟨by omega, by omega⟩) | fail)
local macro_rules | `(tactic| o_reads) => `(tactic| first | with_reducible refine rd_div ?_ ?_ | fail)
local macro_rules | `(tactic| o_reads) => `(tactic| first | ((with_reducible refine rd_div ?_ ?_); exact ⟨by o_shape, by first | decide | (apply lg <;> omega)⟩) | fail)
local macro_rules | `(tactic| o_reads) => `(tactic| first | with_reducible refine rd_mod ?_ ?_ | fail)
local macro_rules | `(tactic| o_reads) => `(tactic| first | ((with_reducible refine rd_mod ?_ ?_); o_shape) | fail)
local macro_rules | `(tactic| o_reads) => `(tactic| first | with_reducible refine rd_ge ?_ | fail)
local macro_rules | `(tactic| o_reads) => `(tactic| first | with_reducible refine rd_gt ?_ | fail)
local macro_rules | `(tactic| o_reads) => `(tactic| first | with_reducible refine rd_le ?_ | fail)
local macro_rules | `(tactic| o_reads) => `(tactic| first | with_reducible refine rd_lt ?_ | fail)
local macro_rules | `(tactic| o_reads) => `(tactic| first | with_reducible refine rd_neS ?_ | fail)
local macro_rules | `(tactic| o_reads) => `(tactic| first | with_reducible refine rd_neI2 ?_ | fail)
local macro_rules | `(tactic| o_reads) => `(tactic| first | with_reducible refine rd_eqS ?_ | fail)
local macro_rules | `(tactic| o_reads) => `(tactic| first | with_reducible refine rd_eqB ?_ | fail)
local macro_rules | `(tactic| o_reads) => `(tactic| first | with_reducible refine rd_eqI ?_ | fail)
local macro_rules | `(tactic| o_reads) => `(tactic| first | with_reducible refine rd_sub ?_ | fail)
local macro_rules | `(tactic| o_reads) => `(tactic| first | with_reducible refine rd_addI ?_ | fail)
local macro_rules | `(tactic| o_reads) => `(tactic| first | with_reducible refine g_tup rfl ?_ | fail)
local macro_rules | `(tactic| o_reads) => `(tactic| first | with_reducible refine gs_nil ?_ | fail)
local macro_rules | `(tactic| o_reads) => `(tactic| first | with_reducible refine gs_cons ?_ | fail)
local macro_rules | `(tactic| o_reads) => `(tactic| first | with_reducible refine g_name ?_ | fail)
local macro_rules | `(tactic| o_reads) => `(tactic| first | ((fail_if_success (with_reducible refine b_asgLst ?_)); (with_reducible refine b_asgG ?_)) | fail)
local macro_rules | `(tactic| o_reads) => `(tactic| first | ((with_reducible apply b_aug); exact rfl) | fail)
local macro_rules | `(tactic| o_reads) => `(tactic| first | with_reducible refine b_par ?_ | fail)
local macro_rules | `(tactic| o_reads) => `(tactic| first | with_reducible refine b_drop ?_ | fail)
local macro_rules | `(tactic| o_reads) => `(tactic| first | ((with_reducible apply b_ext rfl); exact rfl) | fail)
local macro_rules | `(tactic| o_reads) => `(tactic| first | ((with_reducible apply b_clr rfl); exact rfl) | fail)
local macro_rules | `(tactic| o_reads) => `(tactic| first | ((with_reducible apply b_rev rfl); exact rfl) | fail)
local macro_rules | `(tactic| o_reads) => `(tactic| first | ((with_reducible apply b_app rfl); exact rfl) | fail)
local macro_rules | `(tactic| o_reads) => `(tactic| first | with_reducible refine b_cont ?_ | fail)
local macro_rules | `(tactic| o_reads) => `(tactic| first | with_reducible refine b_brk ?_ | fail)
local macro_rules | `(tactic| o_reads) => `(tactic| first | with_reducible refine b_retN ?_ | fail)
local macro_rules | `(tactic| o_reads) => `(tactic| first | ((fail_if_success (with_reducible refine b_asgLst ?_)); (with_reducible refine b_asg ?_)) | fail)
local macro_rules | `(tactic| o_reads) => `(tactic| first | with_reducible refine b_next ?_ | fail)
local macro_rules | `(tactic| o_reads) => `(tactic| first | with_reducible refine b_ret ?_ | fail)
local macro_rules | `(tactic| o_reads) => `(tactic| first | with_reducible refine b_if ?_ | fail)
local macro_rules | `(tactic| o_reads) => `(tactic| first | with_reducible refine b_ifR ?_ ?_ | fail)
local macro_rules | `(tactic| o_reads) => `(tactic| first | with_reducible refine b_seq ?_ | fail)
local macro_rules | `(tactic| o_reads) => `(tactic| first | with_reducible refine ev_chain ?_ | fail)
local macro_rules | `(tactic| o_reads) => `(tactic| first | with_reducible refine ev_if ?_ | fail)
local macro_rules | `(tactic| o_reads) => `(tactic| first | with_reducible refine ev_notV ?_ | fail)
local macro_rules | `(tactic| o_reads) => `(tactic| first | with_reducible refine ev_orV ?_ | fail)
local macro_rules | `(tactic| o_reads) => `(tactic| first | with_reducible refine ev_andV ?_ | fail)
local macro_rules | `(tactic| o_reads) => `(tactic| first | with_reducible refine ev_lst ?_ | fail)
local macro_rules | `(tactic| o_reads) => `(tactic| first | with_reducible refine ev_tup ?_ | fail)
local macro_rules | `(tactic| o_reads) => `(tactic| first | with_reducible refine et_or ?_ | fail)
local macro_rules | `(tactic| o_reads) => `(tactic| first | with_reducible refine et_and ?_ | fail)
local macro_rules | `(tactic| o_reads) => `(tactic| first | with_reducible refine et_not ?_ | fail)
local macro_rules | `(tactic| o_reads) => `(tactic| first | with_reducible refine et_b ?_ | fail)
local macro_rules | `(tactic| o_reads) => `(tactic| first | with_reducible refine et_test ?_ | fail)
local macro_rules | `(tactic| o_reads) => `(tactic| first | with_reducible refine ev_cb ?_ | fail)
local macro_rules | `(tactic| o_reads) => `(tactic| first | with_reducible refine ev_un ?_ | fail)
local macro_rules | `(tactic| o_reads) => `(tactic| first | with_reducible refine ev_op ?_ | fail)
local macro_rules | `(tactic| o_reads) => `(tactic| first | with_reducible refine ea_cons ?_ | fail)
local macro_rules | `(tactic| o_reads) => `(tactic| first | with_reducible refine ea_nil ?_ | fail)
local macro_rules | `(tactic| o_reads) => `(tactic| first | with_reducible refine ev_ty ?_ | fail)
local macro_rules | `(tactic| o_reads) => `(tactic| first | with_reducible refine ev_non ?_ | fail)
local macro_rules | `(tactic| o_reads) => `(tactic| first | with_reducible refine ev_bl ?_ | fail)
local macro_rules | `(tactic| o_reads) => `(tactic| first | with_reducible refine ev_str ?_ | fail)
local macro_rules | `(tactic| o_reads) => `(tactic| first | with_reducible refine ev_int ?_ | fail)
local macro_rules | `(tactic| o_reads) => `(tactic| first | ((with_reducible apply ev_var); exact rfl) | fail)
local macro_rules | `(tactic| o_readsAll) => `(tactic| repeat' o_reads)
/-! ### contracts -/
def F_since_behind_sign (K : PySem.W.Frag) : FSpec := fun ds Φ _ => ∃ (p : Plan) (b : Bool) (n : Int), ds = [waneD K p, sgD b, .int n] ∧ Φ (.int (if b then (if p.anew then 0 else n) else n + 1))
def F_along (K : PySem.W.Frag) : FNew := fun ds Φ _ => ∃ (p : Plan) (s : Int) (l : List Bool) (n : Int), ds = [waneD K p, .int s, rowD l, .int n] ∧ (p.Ok ∧ 0 ≤ s ∧ s ≤ p.cap ∧ 0 ≤ n ∧ n ≤ 10 ^ 30 ∧ l.length ≤ 200) ∧ Φ ((p.trace (s, n) l).map stepD)
def F_since_behind (K : PySem.W.Frag) : FSpec := fun ds Φ _ => ∃ (p : Plan) (l : List Bool) (n : Int), ds = [waneD K p, rowD l, .int n] ∧ (p.Ok ∧ 0 ≤ n ∧ n ≤ 10 ^ 30 ∧ l.length ≤ 200) ∧ Φ (.int (p.fin (0, n) l).2)
def F_l_row (B : Bg) : FSpec := fun ds Φ _ => ∃ m : Int, ds = [.adr B.b, .int m] ∧ (6 ≤ m ∧ m ≤ 1000) ∧ ∀ l : List Bool, (l.length : Int) ≤ m → Φ (rowD l)
def t_since_behind_sign (K : PySem.W.Frag) (E : XK) : TS :=
    (tSeq (tIfS (tTest (tOp (rEqU K) (tVar 1) (tC (.str "."))))
     (tRet (tOp (rAddU K) (tVar 2) (tC (.int 1))))
     tNext)
    (tRet (tIf (tB (tFld K (tVar 0) "begins")) (tC (.int 0)) (tVar 2))))
theorem pure_since_behind_sign {K : PySem.W.Frag} (W : WaneK K) {vs : List V} {H : Hp} {Q : VK} {E : XK} (h : lift K pureM (F_since_behind_sign K) vs H Q E) : t_since_behind_sign K E { nx := fun _ H' => Q .non H', rt := Q } (L2.start ["wane", "sign", "since"] vs) H :=
  lift_of (t := t_since_behind_sign K) (fun C ds Φ hK hm hE hn ⟨p, b, n, e, q⟩ => by
    subst hK hE e
    unfold t_since_behind_sign
    cases b with
    | false =>
      refine b_seq (b_ifT (et_test (ev_op (ev_var rfl (ev_str (rd_dot ⟨_, rfl, rfl, ?_⟩))))))
      o_readsAll
      exact q
    | true =>
      refine b_seq (b_ifF (et_test (ev_op (ev_var rfl (ev_str (rd_dot ⟨_, rfl, rfl, ?_⟩))))))
      have q' : Φ (.int (if p.anew then 0 else n)) := q
      o_readsAll
      refine ⟨fun z => ?_, fun z => ?_⟩
      · rw [z] at q'
        exact ev_int q'
      · rw [z] at q'
        exact ev_var rfl q') h
def t_along (K : PySem.W.Frag) (E : XK) : TS :=
    (tSeq (tDrop (tCl 4 0 (lift K pureM (F_check_part K)) gvAll E (tCons (tVar 0) (tCons (tVar 1) (tCons (tC (.int 0)) (tCons (tC (.int 0)) tNil)))) tNil))
    (tSeq (tIfS (tNot (tB (tCl 1 0 (lift K pureM (F_is_row K)) gvAll E (tCons (tVar 2) tNil) tNil)))
     tNever
     tNext)
    (tSeq (tIfS (tNot (tB (tCl 1 0 (lift K pureM (F_is_moment K)) gvAll E (tCons (tVar 3) tNil) tNil)))
     tNever
     tNext)
    (tSeq (tAsg (tLst (tCons (tTup (tCons (tVar 1) (tCons (tVar 3) tNil))) tNil)) (gName 4))
    (tSeq (tFor (iU K (tVar 2)) (gName 5)
     (tSeq (tIfS (tTest (tOp (rEqU K) (tVar 5) (tC (.str "."))))
       (tAsg (tCl 3 0 (lift K pureM (F_turned K)) gvAll E (tCons (tVar 0) (tCons (tVar 1) (tCons (tVar 3) tNil))) tNil) (gName 1))
       (tAsg (tCl 2 0 (lift K pureM (F_asked K)) gvAll E (tCons (tVar 0) (tCons (tVar 1) tNil)) tNil) (gName 1)))
      (tSeq (tAsg (tCl 3 0 (lift K pureM (F_since_behind_sign K)) gvAll E (tCons (tVar 0) (tCons (tVar 5) (tCons (tVar 3) tNil))) tNil) (gName 3))
      (tDrop (tBM K "list" rAppend (tVar 4) (tCons (tTup (tCons (tVar 1) (tCons (tVar 3) tNil))) tNil))))))
    (tRet (tVar 4)))))))
theorem pure_along {K : PySem.W.Frag} {vs : List V} {H : Hp} {Q : VK} {E : XK} (h : liftN K pureM (F_along K) vs H Q E) : t_along K E { nx := fun _ H' => Q .non H', rt := Q } (L2.start ["wane", "strength", "row", "since", "found", "sign"] vs) H :=
  liftN_of (t := t_along K) (fun C ds Φ hK hm hE hn ⟨p, s, l, n, e, ⟨ok, h1, h2, h3, h4, h5⟩, q⟩ => by
    subst hK hE e
    unfold t_along
    refine b_seq (b_drop ?_)
    o_readsAll
    refine b_own (en_lst ?_)
    o_readsAll
    refine b_forRow (l := l) (fun k δ => ∃ x5 : Sl, δ = [.d (waneD C.K p), .d (.int (p.fin (s, n) (l.take k)).1), .d (rowD l), .d (.int (p.fin (s, n) (l.take k)).2), .own ((p.trace (s, n) (l.take k)).map stepD), x5]) (ev_var rfl rfl) ⟨_, rfl⟩ ?_ ?_
    · rintro k b δ hb ⟨x5, rfl⟩
      have hk := lt_of_some hb
      obtain ⟨f1, f2, f3⟩ := fin_ok ok (l.take k) (x := (s, n)) ⟨h1, h2, h3⟩
      have ll : (l.take k).length ≤ 200 := by rw [List.length_take]; omega
      have fin' : p.fin (s, n) (l.take (k + 1)) = p.after (p.fin (s, n) (l.take k)) b := by rw [take_snoc hb, fin_snoc]
      have tr' : (p.trace (s, n) (l.take (k + 1))).map stepD = (p.trace (s, n) (l.take k)).map stepD ++ [stepD (p.after (p.fin (s, n) (l.take k)) b)] := by rw [take_snoc hb, trace_snoc, List.map_append]; rfl
      have ltr : ((p.trace (s, n) (l.take k)).map stepD).length < 100000 := by rw [List.length_map, trace_len]; omega
      rw [fin', tr']
      generalize (p.trace (s, n) (l.take k)).map stepD = acc at ltr
      generalize p.fin (s, n) (l.take k) = x at f1 f2 f3
      refine g_name ?_
      refine b_seq ?_
      cases b with
      | false =>
        refine b_ifT (et_test (ev_op (ev_var rfl (ev_str (rd_dot ⟨_, rfl, rfl, ?_⟩)))))
        o_readsAll
      | true =>
        refine b_ifF (et_test (ev_op (ev_var rfl (ev_str (rd_dot ⟨_, rfl, rfl, ?_⟩)))))
        o_readsAll
    · rintro δ ⟨x5, rfl⟩
      rw [List.take_length]
      exact b_retF rfl q) h
def t_since_behind (K : PySem.W.Frag) (E : XK) : TS :=
    (tSeq (tIfS (tNot (tB (tCB (rIsi K) (tCons (tVar 0) (tCons (tC (.ref (He.ga K "Wane"))) tNil)))))
     tNever
     tNext)
    (tSeq (tIfS (tNot (tB (tCl 1 0 (lift K pureM (F_is_row K)) gvAll E (tCons (tVar 1) tNil) tNil)))
     tNever
     tNext)
    (tSeq (tIfS (tNot (tB (tCl 1 0 (lift K pureM (F_is_moment K)) gvAll E (tCons (tVar 2) tNil) tNil)))
     tNever
     tNext)
    (tSeq (tFor (iU K (tVar 1)) (gName 3)
     (tAsg (tCl 3 0 (lift K pureM (F_since_behind_sign K)) gvAll E (tCons (tVar 0) (tCons (tVar 3) (tCons (tVar 2) tNil))) tNil) (gName 2)))
    (tRet (tVar 2))))))
theorem after_snd (p : Plan) (x : Int × Int) (b : Bool) : (p.after x b).2 = if b then (if p.anew then 0 else x.2) else x.2 + 1 := by cases b <;> rfl
theorem pure_since_behind {K : PySem.W.Frag} (I : Isi K (He.ga K "Wane")) {vs : List V} {H : Hp} {Q : VK} {E : XK} (h : lift K pureM (F_since_behind K) vs H Q E) : t_since_behind K E { nx := fun _ H' => Q .non H', rt := Q } (L2.start ["wane", "row", "since", "sign"] vs) H :=
  lift_of (t := t_since_behind K) (fun C ds Φ hK hm hE hn ⟨p, l, n, e, ⟨ok, h1, h2, h3⟩, q⟩ => by
    subst hK hE e
    unfold t_since_behind
    o_readsAll
    refine b_forRow (l := l) (fun k δ => ∃ x3 : Sl, δ = [.d (waneD C.K p), .d (rowD l), .d (.int (p.fin (0, n) (l.take k)).2), x3]) (ev_var rfl rfl) ⟨_, rfl⟩ ?_ ?_
    · rintro k b δ hb ⟨x3, rfl⟩
      rw [take_snoc hb, fin_snoc, after_snd]
      refine g_name ?_
      o_readsAll
    · rintro δ ⟨x3, rfl⟩
      rw [List.take_length]
      o_readsAll
      exact q) h
def t_l_row (K : PySem.W.Frag) (E : XK) : TS :=
    (tSeq (tAsg (tOp (rIx K) (tLst (tCons (tC (.int 0)) (tCons (tC (.int 1)) (tCons (tCl 2 0 (liftB K F_l_take) gvAll E (tCons (tVar 0) (tCons (tC (.int 6)) tNil)) tNil) (tCons (tCl 2 0 (liftB K F_l_take) gvAll E (tCons (tVar 0) (tCons (tOp (rAddU K) (tVar 1) (tC (.int 1))) tNil)) tNil) (tCons (tVar 1) tNil)))))) (tCl 2 0 (liftB K F_l_take) gvAll E (tCons (tVar 0) (tCons (tC (.int 5)) tNil)) tNil)) (gName 2))
    (tSeq (tAsg (tOp (rIx K) (tLst (tCons (tC (.int 2)) (tCons (tC (.int 4)) (tCons (tC (.int 12)) tNil)))) (tCl 2 0 (liftB K F_l_take) gvAll E (tCons (tVar 0) (tCons (tC (.int 3)) tNil)) tNil)) (gName 3))
    (tSeq (tAsg (tOp (rAddU K) (tC (.int 1)) (tCl 2 0 (liftB K F_l_take) gvAll E (tCons (tVar 0) (tCons (tC (.int 9)) tNil)) tNil)) (gName 4))
    (tSeq (tIfS (tTest (tOp (rEqU K) (tCl 2 0 (liftB K F_l_take) gvAll E (tCons (tVar 0) (tCons (tC (.int 3)) tNil)) tNil) (tC (.int 0))))
     (tRet (tBM K "str" (rJoinU K) (tC (.str "")) (tCons (tLc (iRng1 (tCons (tVar 2) tNil)) (gName 5) tYes (tOp (rIx K) (tLst (tCons (tC (.str ".")) (tCons (tC (.str "a")) tNil))) (tCB rIntU (tCons (tOp (rEqU K) (tOp rModU (tVar 5) (tVar 4)) (tC (.int 0))) tNil))) [5]) tNil)))
     tNext)
    (tRet (tBM K "str" (rJoinU K) (tC (.str "")) (tCons (tLc (iRng1 (tCons (tVar 2) tNil)) (gName 5) tYes (tOp (rIx K) (tLst (tCons (tC (.str "a")) (tCons (tC (.str ".")) tNil))) (tCB rIntU (tCons (tOp rGtU (tCl 2 0 (liftB K F_l_take) gvAll E (tCons (tVar 0) (tCons (tVar 3) tNil)) tNil) (tC (.int 0))) tNil))) [5]) tNil)))))))
theorem dotD : D.str "." = sgD false := by
  have : ("." : Str) = ⟨#[46]⟩ := by decide +kernel
  rw [this]
  rfl
theorem askD : D.str "a" = sgD true := by
  have : ("a" : Str) = ⟨#[97]⟩ := by decide +kernel
  rw [this]
  rfl
/-- ''.join([.. for k in range(n)]), each a sign -/
theorem ev_rowOf {C : Ctx} {δ : List Sl} {ta : TA} {te : TE} {Φ : D → Prop} {K : PySem.W.Frag} (hK : K = C.K) (n : Int) {j : Nat} (h : EvA C ta δ fun ds => ds = [.int n]) (hn : n ≤ 99999 ∧ 0 ≤ n) (hj : ∀ c fs, δ[j]? ≠ some (.new c fs))
    (hs : ∀ k : Nat, EvD C te (δ.set j (.d (.int (k : Int)))) fun d => ∃ b, d = sgD b) (q : ∀ l : List Bool, (l.length : Int) = n → Φ (rowD l)) :
    EvD C (tBM K "str" (rJoinU K) (tC (.str "")) (tCons (tLc (iRng1 ta) (gName j) tYes te [j]) tNil)) δ Φ := by
  refine ev_join hK (ev_str ⟨_, rfl, ea_cons (ev_new (en_lcR (n := n) (fun k acc => ∃ l : List Bool, acc = l.map sgD ∧ l.length = k) h ⟨hn.1, by omega⟩ hj ⟨[], rfl, rfl⟩ ?_ ?_))⟩)
  · rintro k acc hk ⟨l, rfl, hl⟩
    refine et_yes ⟨fun _ => (hs k).mono fun d ⟨b, e⟩ => ⟨l ++ [b], by rw [List.map_append, e]; rfl, by simp [hl]⟩, fun z => (by cases z)⟩
  · rintro acc ⟨l, rfl, hl⟩
    refine ea_nil ⟨l.map fun b => ⟨#[sg b]⟩, by rw [List.map_map]; rfl, ?_, ?_⟩
    · have e : ((l.map fun b => (⟨#[sg b]⟩ : Str)).map (·.length)).sum = l.length := by
        rw [List.map_map]
        clear hl hs
        induction l with
        | nil => rfl
        | cons b r ih => rw [List.map_cons, List.sum_cons, ih, List.length_cons]; show 1 + _ = _; omega
      have e0 : ("" : Str).length = 0 := by decide +kernel
      rw [e, e0]
      omega
    · rw [row_join]
      exact q l (by omega)
theorem pure_l_row {K : PySem.W.Frag} {vs : List V} {H : Hp} {Q : VK} {E : XK} (h : liftB K F_l_row vs H Q E) : t_l_row K E { nx := fun _ H' => Q .non H', rt := Q } (L2.start ["_law_bag_here", "_law_most", "_law_many", "_law_often", "_law_every", "_law_k"] vs) H := by
  obtain ⟨B, h⟩ := h
  exact lift_of (t := t_l_row K) (fun C ds Φ hK hm hE hn ⟨m, e, ⟨h1, h2⟩, q⟩ => by
    subst hK hE e
    unfold t_l_row
    o_readsAll
    intro a a1 a2
    o_readsAll
    intro b b1 b2
    o_readsAll
    intro i i1 i2
    refine rd_pick i1 i2 fun d hd => ?_
    obtain ⟨n, rfl, n1, n2⟩ : ∃ n : Int, d = .int n ∧ 0 ≤ n ∧ n ≤ m := by
      simp only [List.mem_cons, List.not_mem_nil, or_false] at hd
      rcases hd with rfl | rfl | rfl | rfl | rfl <;> exact ⟨_, rfl, by omega, by omega⟩
    o_readsAll
    intro i i1 i2
    refine rd_pick i1 i2 fun d hd => ?_
    obtain ⟨o, rfl, o1, o2⟩ : ∃ n : Int, d = .int n ∧ 2 ≤ n ∧ n ≤ 12 := by
      simp only [List.mem_cons, List.not_mem_nil, or_false] at hd
      rcases hd with rfl | rfl | rfl <;> exact ⟨_, rfl, by omega, by omega⟩
    o_readsAll
    intro v v1 v2
    o_readsAll
    intro w w1 w2
    o_readsAll
    · refine ev_rowOf rfl n (ea_cons (ev_var rfl (ea_nil rfl))) ⟨by omega, n1⟩ (noNew (s := .no) rfl fun _ _ z => (by cases z)) (fun k => ?_) fun l hl => q l (by omega)
      o_readsAll
      refine rd_pick (by split <;> omega) (by split <;> (simp only [List.length_cons, List.length_nil]; omega)) fun d hd => ?_
      simp only [List.mem_cons, List.not_mem_nil, or_false] at hd
      rcases hd with rfl | rfl
      · exact ⟨_, dotD⟩
      · exact ⟨_, askD⟩
    · refine ev_rowOf rfl n (ea_cons (ev_var rfl (ea_nil rfl))) ⟨by omega, n1⟩ (noNew (s := .no) rfl fun _ _ z => (by cases z)) (fun k => ?_) fun l hl => q l (by omega)
      o_readsAll
      intro u u1 u2
      o_readsAll
      refine rd_pick (by split <;> omega) (by split <;> (simp only [List.length_cons, List.length_nil]; omega)) fun d hd => ?_
      simp only [List.mem_cons, List.not_mem_nil, or_false] at hd
      rcases hd with rfl | rfl
      · exact ⟨_, askD⟩
      · exact ⟨_, dotD⟩) h
theorem asked_eq {p : Plan} (ok : p.Ok) {s : Int} (hs : 0 ≤ s) : min p.cap (s + p.up) * (if decide (0 < s) = true then 1 else 0) = p.asked s := by
  have c1 := ok.c1
  have u1 := ok.u1
  unfold Plan.asked
  by_cases z : s = 0
  · rw [if_pos z, if_neg (by simp; omega)]
    omega
  · rw [if_neg z, if_pos (decide_eq_true (by omega))]
    omega
theorem cut_plan3 (p : Plan) : cutD [stepsD p.hs, stepsD p.ts, .int p.cap, .int p.up, .bl p.anew] (some 2) none = [.int p.cap, .int p.up, .bl p.anew] := rfl
theorem ev_plan3 {C : Ctx} {δ : List Sl} {te : TE} {Φ : D → Prop} {K : PySem.W.Frag} (hK : K = C.K) (h : EvD C te δ fun d => ∃ p, d = planD p ∧ Φ (.tup [.int p.cap, .int p.up, .bl p.anew])) : EvD C (tSl (rSlU K) te (tPart (tC (.int 2))) tNoPart) δ Φ :=
  ev_cutT hK (h.mono fun d ⟨p, e, q⟩ => eo_part (ev_int ⟨2, rfl, eo_none ⟨_, e, fun z => absurd (show (2 : Nat) = 0 from z.1) (by decide), by rw [cut_plan3]; exact q⟩⟩))
theorem rd_neg1 {K : PySem.W.Frag} {xs : List D} {d : D} {Φ : D → Prop} (h : xs[xs.length - 1]? = some d) (q : Φ d) : RD K (rIx K) (.lst xs) (.int (-1)) Φ := by
  have hl : 0 < xs.length := by
    have := lt_of_some h
    omega
  refine rd_ixL (d := d) ?_ q
  have e : ixN xs.length (-1) = some (xs.length - 1) := by
    unfold ixN
    rw [if_neg (by omega)]
    rw [if_pos (by omega)]
    congr 1
    omega
  unfold atI
  rw [e]
  exact h
theorem trace_last (p : Plan) (x : Int × Int) (l : List Bool) : ((p.trace x l).map stepD)[((p.trace x l).map stepD).length - 1]? = some (stepD (p.fin x l)) := by
  rw [List.length_map, trace_len, List.getElem?_map, trace_at p l x _ (by omega)]
  show some (stepD (p.fin x (l.take (l.length + 1 - 1)))) = _
  rw [show l.length + 1 - 1 = l.length by omega, List.take_length]
section
variable {K : PySem.W.Frag} {p : Plan} {x s : Int × Int} {l : List Bool} {Φ : D → Prop}
theorem rd_negT (q : Φ (stepD (p.fin x l))) : RD K (rIx K) (stepsD (p.trace x l)) (.int (-1)) Φ := rd_neg1 (trace_last p x l) q
theorem rd_s0 (q : Φ (.int s.1)) : RD K (rIx K) (stepD s) (.int 0) Φ := rd_ixT rfl q
theorem rd_s1 (q : Φ (.int s.2)) : RD K (rIx K) (stepD s) (.int 1) Φ := rd_ixT rfl q
end
end Wn
end

section
/-! Plans of the second kind. -/
namespace Wn.G
open PySem PySem.Spec PyProof.Rows L2
local macro_rules | `(tactic| o_shape) => `(tactic| first | assumption | rfl | trivial | omega | decide)
local macro_rules | `(tactic| o_reads) => `(tactic| first | fail "no rule" | fail)
local macro_rules | `(tactic| o_reads) => `(tactic| first | (apply Exists.intro; (repeat apply Exists.intro); exact rfl) | fail)
local macro_rules | `(tactic| o_reads) => `(tactic| first | refine And.intro (by omega) ?_ | fail)
local macro_rules | `(tactic| o_reads) => `(tactic| first | refine And.intro (by assumption) ?_ | fail)
local macro_rules | `(tactic| o_reads) => `(tactic| first | refine And.intro (by assumption : Plan.Ok _) ?_ | fail)
local macro_rules | `(tactic| o_reads) => `(tactic| first | refine ⟨by exact Nat.le_of_ble_eq_true rfl, ?_⟩ | fail)
local macro_rules | `(tactic| o_reads) => `(tactic| first | refine ⟨rfl, ?_⟩ | fail)
local macro_rules | `(tactic| o_reads) => `(tactic| first | refine ⟨_, _, _, _, rfl, ?_⟩ | fail)
local macro_rules | `(tactic| o_reads) => `(tactic| first | refine ⟨_, _, _, rfl, ?_⟩ | fail)
local macro_rules | `(tactic| o_reads) => `(tactic| first | refine ⟨_, _, rfl, ?_⟩ | fail)
local macro_rules | `(tactic| o_reads) => `(tactic| first | refine ⟨_, rfl, ?_⟩ | fail)
local macro_rules | `(tactic| o_reads) => `(tactic| first | refine And.intro (And.intro (by first | decide | omega) (by first | decide | omega)) ?_ | fail)
local macro_rules | `(tactic| o_reads) => `(tactic| first | with_reducible refine eo_part ?_ | fail)
local macro_rules | `(tactic| o_reads) => `(tactic| first | with_reducible refine eo_none ?_ | fail)
local macro_rules | `(tactic| o_reads) => `(tactic| first | (((with_reducible apply rd_atM); (first | assumption | omega)); assumption) | fail)
local macro_rules | `(tactic| o_reads) => `(tactic| first | refine ⟨fit_step (coming_ok (by assumption) _), ?_⟩ | fail)
local macro_rules | `(tactic| o_reads) => `(tactic| first | refine ⟨fit_int ⟨by omega, by omega⟩, ?_⟩ | fail)
local macro_rules | `(tactic| o_reads) => `(tactic| first | ((with_reducible refine rc_isW ?_ ?_); assumption) | fail)
local macro_rules | `(tactic| o_reads) => `(tactic| first | with_reducible refine ev_adr ?_ | fail)
local macro_rules | `(tactic| o_reads) => `(tactic| first | with_reducible exact rfl | fail)
local macro_rules | `(tactic| o_reads) => `(tactic| first | exact dn_t (by omega) | fail)
local macro_rules | `(tactic| o_reads) => `(tactic| first | exact dn_f (by omega) | fail)
local macro_rules | `(tactic| o_reads) => `(tactic| first | exact decide_eq_true (by omega) | fail)
local macro_rules | `(tactic| o_reads) => `(tactic| first | exact decide_eq_false (by omega) | fail)
local macro_rules | `(tactic| o_reads) => `(tactic| first | exact (rfl : (!true) = false) | fail)
local macro_rules | `(tactic| o_reads) => `(tactic| first | refine sprn (fun z => ?_) (fun z => ?_) | fail)
local macro_rules | `(tactic| o_reads) => `(tactic| first | refine spln (fun z => ?_) (fun z => ?_) | fail)
local macro_rules | `(tactic| o_reads) => `(tactic| first | refine spr (fun z => ?_) (fun z => ?_) | fail)
local macro_rules | `(tactic| o_reads) => `(tactic| first | refine spl (fun z => ?_) (fun z => ?_) | fail)
local macro_rules | `(tactic| o_reads) => `(tactic| first | with_reducible refine spNF ?_ | fail)
local macro_rules | `(tactic| o_reads) => `(tactic| first | with_reducible refine spNT ?_ | fail)
local macro_rules | `(tactic| o_reads) => `(tactic| first | refine sprn (fun _ => ?_) (fun z => absurd z (by omega)) | fail)
local macro_rules | `(tactic| o_reads) => `(tactic| first | refine sprn (fun z => absurd z (by omega)) (fun _ => ?_) | fail)
local macro_rules | `(tactic| o_reads) => `(tactic| first | refine spln (fun _ => ?_) (fun z => absurd z (by omega)) | fail)
local macro_rules | `(tactic| o_reads) => `(tactic| first | refine spln (fun z => absurd z (by omega)) (fun _ => ?_) | fail)
local macro_rules | `(tactic| o_reads) => `(tactic| first | refine spr (fun _ => ?_) (fun z => absurd z (by omega)) | fail)
local macro_rules | `(tactic| o_reads) => `(tactic| first | refine spr (fun z => absurd z (by omega)) (fun _ => ?_) | fail)
local macro_rules | `(tactic| o_reads) => `(tactic| first | refine spl (fun _ => ?_) (fun z => absurd z (by omega)) | fail)
local macro_rules | `(tactic| o_reads) => `(tactic| first | refine spl (fun z => absurd z (by omega)) (fun _ => ?_) | fail)
local macro_rules | `(tactic| o_reads) => `(tactic| first | with_reducible refine sprf ?_ | fail)
local macro_rules | `(tactic| o_reads) => `(tactic| first | with_reducible refine sprt ?_ | fail)
local macro_rules | `(tactic| o_reads) => `(tactic| first | with_reducible refine spff ?_ | fail)
local macro_rules | `(tactic| o_reads) => `(tactic| first | with_reducible refine sptt ?_ | fail)
local macro_rules | `(tactic| o_reads) => `(tactic| first | ((with_reducible refine ev_wm rfl ?_ ?_); decide +kernel) | fail)
local macro_rules | `(tactic| o_reads) => `(tactic| first | ((with_reducible refine ev_anew ?_ ?_); assumption) | fail)
local macro_rules | `(tactic| o_reads) => `(tactic| first | ((with_reducible refine ev_up ?_ ?_); assumption) | fail)
local macro_rules | `(tactic| o_reads) => `(tactic| first | ((with_reducible refine ev_cap ?_ ?_); assumption) | fail)
local macro_rules | `(tactic| o_reads) => `(tactic| first | ((with_reducible refine ev_ts ?_ ?_); assumption) | fail)
local macro_rules | `(tactic| o_reads) => `(tactic| first | ((with_reducible refine ev_hs ?_ ?_); assumption) | fail)
local macro_rules | `(tactic| o_reads) => `(tactic| first | (((with_reducible apply ev_clB (hg := gAll) (hK := rfl)); assumption); assumption) | fail)
local macro_rules | `(tactic| o_reads) => `(tactic| first | (((with_reducible apply ev_tk rfl); assumption); assumption) | fail)
local macro_rules | `(tactic| o_reads) => `(tactic| first | with_reducible refine ev_cl Sub.pure gAll ?_ | fail)
local macro_rules | `(tactic| o_reads) => `(tactic| first | with_reducible refine ev_withinI rfl ?_ | fail)
local macro_rules | `(tactic| o_reads) => `(tactic| first | with_reducible refine ev_strengthI rfl ?_ | fail)
local macro_rules | `(tactic| o_reads) => `(tactic| first | with_reducible refine ev_sizeI rfl ?_ | fail)
local macro_rules | `(tactic| o_reads) => `(tactic| first | with_reducible refine ev_momentI rfl ?_ | fail)
local macro_rules | `(tactic| o_reads) => `(tactic| first | with_reducible refine ev_wholeI rfl ?_ | fail)
local macro_rules | `(tactic| o_reads) => `(tactic| first | with_reducible refine rd_asg ?_ | fail)
local macro_rules | `(tactic| o_reads) => `(tactic| first | with_reducible refine rd_dot ?_ | fail)
local macro_rules | `(tactic| o_reads) => `(tactic| first | with_reducible refine rc_lenRow (by omega) ?_ | fail)
local macro_rules | `(tactic| o_reads) => `(tactic| first | with_reducible refine ev_isrow rfl ?_ | fail)
local macro_rules | `(tactic| o_reads) => `(tactic| first | ((with_reducible refine rc_isS ?_ ?_); first | assumption | (simp [D.tyn]; done) | (apply plainD.ty; assumption)) | fail)
local macro_rules | `(tactic| o_reads) => `(tactic| first | ((with_reducible refine rc_isT ?_ ?_); first | assumption | (simp [D.tyn]; done) | (apply plainD.ty; assumption)) | fail)
local macro_rules | `(tactic| o_reads) => `(tactic| first | ((with_reducible refine rc_isL ?_ ?_); first | assumption | (simp [D.tyn]; done) | (apply plainD.ty; assumption)) | fail)
local macro_rules | `(tactic| o_reads) => `(tactic| first | ((with_reducible refine rc_isB ?_ ?_); first | assumption | (simp [D.tyn]; done) | (apply plainD.ty; assumption)) | fail)
local macro_rules | `(tactic| o_reads) => `(tactic| first | ((with_reducible refine rc_isI ?_ ?_); first | assumption | (simp [D.tyn]; done) | (apply plainD.ty; assumption)) | fail)
local macro_rules | `(tactic| o_reads) => `(tactic| first | with_reducible refine rc_intB ?_ | fail)
local macro_rules | `(tactic| o_reads) => `(tactic| first | with_reducible refine rc_intI ?_ | fail)
local macro_rules | `(tactic| o_reads) => `(tactic| first | with_reducible refine rc_min ?_ | fail)
local macro_rules | `(tactic| o_reads) => `(tactic| first | with_reducible refine rc_max ?_ | fail)
local macro_rules | `(tactic| o_reads) => `(tactic| first | with_reducible refine rc_abs ?_ | fail)
local macro_rules | `(tactic| o_reads) => `(tactic| first | with_reducible refine rc_lenT ?_ | fail)
local macro_rules | `(tactic| o_reads) => `(tactic| first | with_reducible refine rc_lenL ?_ | fail)
local macro_rules | `(tactic| o_reads) => `(tactic| first | with_reducible refine rc_lenD ?_ | fail)
local macro_rules | `(tactic| o_reads) => `(tactic| first | with_reducible refine rd_notN ?_ | fail)
local macro_rules | `(tactic| o_reads) => `(tactic| first | with_reducible refine rd_isN ?_ | fail)
local macro_rules | `(tactic| o_reads) => `(tactic| first | ((with_reducible apply rd_ixL); exact rfl) | fail)
local macro_rules | `(tactic| o_reads) => `(tactic| first | ((with_reducible apply rd_ixT); exact rfl) | fail)
local macro_rules | `(tactic| o_reads) => `(tactic| first | (((with_reducible refine rd_atD ?_ ?_ ?_); (first | assumption | omega)); (first | assumption | omega)) | fail)
local macro_rules | `(tactic| o_reads) => `(tactic| first | with_reducible refine rd_p4 ?_ | fail)
local macro_rules | `(tactic| o_reads) => `(tactic| first | with_reducible refine rd_p3 ?_ | fail)
local macro_rules | `(tactic| o_reads) => `(tactic| first | with_reducible refine rd_p2 ?_ | fail)
local macro_rules | `(tactic| o_reads) => `(tactic| first | with_reducible refine rd_p1 ?_ | fail)
local macro_rules | `(tactic| o_reads) => `(tactic| first | with_reducible refine rd_p0 ?_ | fail)
local macro_rules | `(tactic| o_reads) => `(tactic| first | ((with_reducible refine rd_neg1 ?_ ?_); assumption) | fail)
local macro_rules | `(tactic| o_reads) => `(tactic| first | with_reducible refine rd_s1 ?_ | fail)
local macro_rules | `(tactic| o_reads) => `(tactic| first | with_reducible refine rd_s0 ?_ | fail)
local macro_rules | `(tactic| o_reads) => `(tactic| first | with_reducible refine rd_negT ?_ | fail)
local macro_rules | `(tactic| o_reads) => `(tactic| first | with_reducible refine rd_e3 ?_ | fail)
local macro_rules | `(tactic| o_reads) => `(tactic| first | with_reducible refine rd_e2 ?_ | fail)
local macro_rules | `(tactic| o_reads) => `(tactic| first | with_reducible refine rd_e1 ?_ | fail)
local macro_rules | `(tactic| o_reads) => `(tactic| first | with_reducible refine rd_e0 ?_ | fail)
local macro_rules | `(tactic| o_reads) => `(tactic| first | with_reducible refine ru_neg ?_ | fail)
local macro_rules | `(tactic| o_reads) => `(tactic| first | (((with_reducible refine rd_pow ?_ ?_); exact ⟨by decide, by decide, by decide⟩); dsimp only [Int.reduceToNat]) | fail)
local macro_rules | `(tactic| o_reads) => `(tactic| first | with_reducible refine rd_mul ?_ ?_ | fail)
local macro_rules | `(tactic| o_reads) => `(tactic| first | (((with_reducible refine rd_mulL ?_ ?_ ?_); (first | assumption | exact EfLg.l (by assumption) | exact EfLg.a (by assumption) | exact EfLg.b (by assumption))); (first | assumption | exact EfLg.b (by assumption))) | fail)
local macro_rules | `(tactic| o_reads) => `(tactic| first | ((with_reducible refine rd_mul ?_ ?_); first | exact .inl ⟨by omega, by omega⟩ | exact .inr ⟨by omega, by omega⟩) | fail)
local macro_rules | `(tactic| o_reads) => `(tactic| first | with_reducible refine rd_div ?_ ?_ | fail)
local macro_rules | `(tactic| o_reads) => `(tactic| first | ((with_reducible refine rd_div ?_ ?_); exact ⟨by o_shape, by first | decide | (apply lg <;> omega)⟩) | fail)
local macro_rules | `(tactic| o_reads) => `(tactic| first | (((with_reducible refine rd_divL ?_ ?_ ?_); omega); (first | assumption | exact EfLg.b (by assumption))) | fail)
local macro_rules | `(tactic| o_reads) => `(tactic| first | with_reducible refine rd_mod ?_ ?_ | fail)
local macro_rules | `(tactic| o_reads) => `(tactic| first | ((with_reducible refine rd_mod ?_ ?_); o_shape) | fail)
local macro_rules | `(tactic| o_reads) => `(tactic| first | with_reducible refine rd_ge ?_ | fail)
local macro_rules | `(tactic| o_reads) => `(tactic| first | with_reducible refine rd_gt ?_ | fail)
local macro_rules | `(tactic| o_reads) => `(tactic| first | with_reducible refine rd_le ?_ | fail)
local macro_rules | `(tactic| o_reads) => `(tactic| first | with_reducible refine rd_lt ?_ | fail)
local macro_rules | `(tactic| o_reads) => `(tactic| first | with_reducible refine rd_neS ?_ | fail)
local macro_rules | `(tactic| o_reads) => `(tactic| first | with_reducible refine rd_neI2 ?_ | fail)
local macro_rules | `(tactic| o_reads) => `(tactic| first | with_reducible refine rd_eqS ?_ | fail)
local macro_rules | `(tactic| o_reads) => `(tactic| first | with_reducible refine rd_eqB ?_ | fail)
local macro_rules | `(tactic| o_reads) => `(tactic| first | with_reducible refine rd_eqI ?_ | fail)
local macro_rules | `(tactic| o_reads) => `(tactic| first | with_reducible refine rd_sub ?_ | fail)
local macro_rules | `(tactic| o_reads) => `(tactic| first | with_reducible refine rd_addI ?_ | fail)
local macro_rules | `(tactic| o_reads) => `(tactic| first | with_reducible refine g_tup rfl ?_ | fail)
local macro_rules | `(tactic| o_reads) => `(tactic| first | with_reducible refine gs_nil ?_ | fail)
local macro_rules | `(tactic| o_reads) => `(tactic| first | with_reducible refine gs_cons ?_ | fail)
local macro_rules | `(tactic| o_reads) => `(tactic| first | with_reducible refine g_name ?_ | fail)
local macro_rules | `(tactic| o_reads) => `(tactic| first | ((fail_if_success (with_reducible refine b_asgLst ?_)); (with_reducible refine b_asgG ?_)) | fail)
local macro_rules | `(tactic| o_reads) => `(tactic| first | ((with_reducible apply b_aug); exact rfl) | fail)
local macro_rules | `(tactic| o_reads) => `(tactic| first | with_reducible refine b_par ?_ | fail)
local macro_rules | `(tactic| o_reads) => `(tactic| first | with_reducible refine b_drop ?_ | fail)
local macro_rules | `(tactic| o_reads) => `(tactic| first | ((with_reducible apply b_ext rfl); exact rfl) | fail)
local macro_rules | `(tactic| o_reads) => `(tactic| first | ((with_reducible apply b_clr rfl); exact rfl) | fail)
local macro_rules | `(tactic| o_reads) => `(tactic| first | ((with_reducible apply b_rev rfl); exact rfl) | fail)
local macro_rules | `(tactic| o_reads) => `(tactic| first | ((with_reducible apply b_app rfl); exact rfl) | fail)
local macro_rules | `(tactic| o_reads) => `(tactic| first | with_reducible refine b_cont ?_ | fail)
local macro_rules | `(tactic| o_reads) => `(tactic| first | with_reducible refine b_brk ?_ | fail)
local macro_rules | `(tactic| o_reads) => `(tactic| first | with_reducible refine b_retN ?_ | fail)
local macro_rules | `(tactic| o_reads) => `(tactic| first | ((fail_if_success (with_reducible refine b_asgLst ?_)); (with_reducible refine b_asg ?_)) | fail)
local macro_rules | `(tactic| o_reads) => `(tactic| first | with_reducible refine b_next ?_ | fail)
local macro_rules | `(tactic| o_reads) => `(tactic| first | with_reducible refine b_ret ?_ | fail)
local macro_rules | `(tactic| o_reads) => `(tactic| first | with_reducible refine b_if ?_ | fail)
local macro_rules | `(tactic| o_reads) => `(tactic| first | with_reducible refine b_ifR ?_ ?_ | fail)
local macro_rules | `(tactic| o_reads) => `(tactic| first | with_reducible refine b_seq ?_ | fail)
local macro_rules | `(tactic| o_reads) => `(tactic| first | with_reducible refine ev_chain ?_ | fail)
local macro_rules | `(tactic| o_reads) => `(tactic| first | with_reducible refine ev_if ?_ | fail)
local macro_rules | `(tactic| o_reads) => `(tactic| first | with_reducible refine ev_notV ?_ | fail)
local macro_rules | `(tactic| o_reads) => `(tactic| first | with_reducible refine ev_orV ?_ | fail)
local macro_rules | `(tactic| o_reads) => `(tactic| first | with_reducible refine ev_andV ?_ | fail)
local macro_rules | `(tactic| o_reads) => `(tactic| first | with_reducible refine ev_lst ?_ | fail)
local macro_rules | `(tactic| o_reads) => `(tactic| first | with_reducible refine ev_tup ?_ | fail)
local macro_rules | `(tactic| o_reads) => `(tactic| first | with_reducible refine et_or ?_ | fail)
local macro_rules | `(tactic| o_reads) => `(tactic| first | with_reducible refine et_and ?_ | fail)
local macro_rules | `(tactic| o_reads) => `(tactic| first | with_reducible refine et_not ?_ | fail)
local macro_rules | `(tactic| o_reads) => `(tactic| first | with_reducible refine et_b ?_ | fail)
local macro_rules | `(tactic| o_reads) => `(tactic| first | with_reducible refine et_test ?_ | fail)
local macro_rules | `(tactic| o_reads) => `(tactic| first | with_reducible refine ev_cb ?_ | fail)
local macro_rules | `(tactic| o_reads) => `(tactic| first | with_reducible refine ev_un ?_ | fail)
local macro_rules | `(tactic| o_reads) => `(tactic| first | with_reducible refine ev_op ?_ | fail)
local macro_rules | `(tactic| o_reads) => `(tactic| first | ((with_reducible apply ev_lenO rfl); exact rfl) | fail)
local macro_rules | `(tactic| o_reads) => `(tactic| first | ((with_reducible apply ev_ixO rfl); exact rfl) | fail)
local macro_rules | `(tactic| o_reads) => `(tactic| first | with_reducible refine ea_cons ?_ | fail)
local macro_rules | `(tactic| o_reads) => `(tactic| first | with_reducible refine ea_nil ?_ | fail)
local macro_rules | `(tactic| o_reads) => `(tactic| first | with_reducible refine ev_ty ?_ | fail)
local macro_rules | `(tactic| o_reads) => `(tactic| first | with_reducible refine ev_non ?_ | fail)
local macro_rules | `(tactic| o_reads) => `(tactic| first | with_reducible refine ev_bl ?_ | fail)
local macro_rules | `(tactic| o_reads) => `(tactic| first | with_reducible refine ev_str ?_ | fail)
local macro_rules | `(tactic| o_reads) => `(tactic| first | with_reducible refine ev_int ?_ | fail)
local macro_rules | `(tactic| o_reads) => `(tactic| first | ((with_reducible apply ev_var); exact rfl) | fail)
local macro_rules | `(tactic| o_readsAll) => `(tactic| repeat' o_reads)
/-- as in WnV, the bound told closer -/
def F_l_since (B : Bg) : FSpec := fun ds Φ _ => ∃ p : Plan, ds = [.adr B.b, planD p] ∧ p.Ok ∧ ∀ v : Int, 0 ≤ v → v ≤ 10 ^ 30 - 200 → Φ (.int v)
def t_l_steps (K : PySem.W.Frag) (E : XK) : TS :=
    (tSeq (tAsg (tCl 2 0 (liftB K F_l_take) gvAll E (tCons (tVar 0) (tCons (tC (.int 3)) tNil)) tNil) (gName 3))
    (tSeq (tAsg (tLst tNil) (gName 4))
    (tSeq (tFor (iRng1 (tCons (tVar 1) tNil)) (gName 5)
     (tSeq (tAsg (tOp (rIx K) (tLst (tCons (tC (.int 1)) (tCons (tC (.int 1)) (tCons (tC (.int 1)) (tCons (tC (.int 1)) (tCons (tC (.int 1)) (tCons (tC (.int 2)) (tCons (tC (.int 3)) (tCons (tOp (rAddU K) (tC (.int 1)) (tCl 2 0 (liftB K F_l_take) gvAll E (tCons (tVar 0) (tCons (tC (.int 9)) tNil)) tNil)) tNil))))))))) (tOp rMulU (tCl 2 0 (liftB K F_l_take) gvAll E (tCons (tVar 0) (tCons (tC (.int 8)) tNil)) tNil) (tCB rIntU (tCons (tOp (rNeU K) (tVar 3) (tC (.int 1))) tNil)))) (gName 6))
      (tSeq (tAsg (tLst (tCons (tC (.int 0)) (tCons (tC (.int 1)) (tCons (tCl 2 0 (liftB K F_l_take) gvAll E (tCons (tVar 0) (tCons (tOp (rAddU K) (tC (.int 1)) (tOp rDivU (tVar 2) (tC (.int 30)))) tNil)) tNil) (tCons (tCl 2 0 (liftB K F_l_take) gvAll E (tCons (tVar 0) (tCons (tOp (rAddU K) (tC (.int 1)) (tOp rDivU (tVar 2) (tC (.int 4)))) tNil)) tNil) tNil))))) (gName 7))
      (tSeq (tDrop (tBM K "list" rAppend (tVar 7) (tCons (tCl 2 0 (liftB K F_l_take) gvAll E (tCons (tVar 0) (tCons (tOp (rAddU K) (tOp rPowU (tC (.int 10)) (tC (.int 9))) (tC (.int 1))) tNil)) tNil) tNil)))
      (tSeq (tAsg (tOp (rIx K) (tLst (tCons (tC (.int 0)) (tCons (tC (.int 0)) (tCons (tC (.int 0)) (tCons (tC (.int 0)) (tCons (tC (.int 1)) (tCons (tC (.int 1)) (tCons (tC (.int 1)) (tCons (tC (.int 2)) (tCons (tC (.int 2)) (tCons (tC (.int 3)) (tCons (tC (.int 3)) (tCons (tC (.int 4)) tNil))))))))))))) (tCl 2 0 (liftB K F_l_take) gvAll E (tCons (tVar 0) (tCons (tC (.int 12)) tNil)) tNil)) (gName 8))
      (tDrop (tBM K "list" rAppend (tVar 4) (tCons (tTup (tCons (tVar 6) (tCons (tOp (rIx K) (tVar 7) (tOp rModU (tVar 8) (tOp (rIx K) (tLst (tCons (tC (.int 5)) (tCons (tC (.int 3)) (tCons (tC (.int 4)) tNil)))) (tVar 3)))) tNil))) tNil))))))))
    (tRet (tVar 4)))))

def t_l_plan (K : PySem.W.Frag) (E : XK) : TS :=
    (tSeq (tAsg (tLst (tCons (tOp (rAddU K) (tC (.int 1)) (tCl 2 0 (liftB K F_l_take) gvAll E (tCons (tVar 0) (tCons (tC (.int 9)) tNil)) tNil)) (tCons (tOp (rAddU K) (tC (.int 2)) (tCl 2 0 (liftB K F_l_take) gvAll E (tCons (tVar 0) (tCons (tC (.int 60)) tNil)) tNil)) (tCons (tC (.int 1000)) (tCons (tOp (rAddU K) (tC (.int 1)) (tCl 2 0 (liftB K F_l_take) gvAll E (tCons (tVar 0) (tCons (tOp rPowU (tC (.int 10)) (tC (.int 9))) tNil)) tNil)) (tCons (tOp rPowU (tC (.int 10)) (tC (.int 9))) tNil)))))) (gName 1))
    (tSeq (tAsg (tOp (rIx K) (tVar 1) (tCl 2 0 (liftB K F_l_take) gvAll E (tCons (tVar 0) (tCons (tC (.int 5)) tNil)) tNil)) (gName 2))
    (tSeq (tAsg (tLst (tCons (tC (.int 0)) (tCons (tC (.int 1)) (tCons (tOp (rAddU K) (tC (.int 1)) (tOp rDivU (tVar 2) (tC (.int 7)))) (tCons (tCl 2 0 (liftB K F_l_take) gvAll E (tCons (tVar 0) (tCons (tOp (rAddU K) (tVar 2) (tC (.int 1))) tNil)) tNil) (tCons (tCl 2 0 (liftB K F_l_take) gvAll E (tCons (tVar 0) (tCons (tOp (rAddU K) (tOp rPowU (tC (.int 10)) (tC (.int 9))) (tC (.int 1))) tNil)) tNil) tNil)))))) (gName 3))
    (tSeq (tAsg (tCl 3 0 (liftB K F_l_steps) gvAll E (tCons (tVar 0) (tCons (tCl 2 0 (liftB K F_l_take) gvAll E (tCons (tVar 0) (tCons (tOp (rIx K) (tLst (tCons (tC (.int 1)) (tCons (tC (.int 4)) (tCons (tC (.int 25)) tNil)))) (tCl 2 0 (liftB K F_l_take) gvAll E (tCons (tVar 0) (tCons (tC (.int 3)) tNil)) tNil)) tNil)) tNil) (tCons (tVar 2) tNil))) tNil) (gName 4))
    (tSeq (tAsg (tCl 3 0 (liftB K F_l_steps) gvAll E (tCons (tVar 0) (tCons (tOp (rIx K) (tLst (tCons (tC (.int 1)) (tCons (tC (.int 2)) (tCons (tC (.int 3)) (tCons (tC (.int 4)) (tCons (tC (.int 6)) (tCons (tC (.int 8)) (tCons (tC (.int 12)) (tCons (tC (.int 24)) tNil))))))))) (tCl 2 0 (liftB K F_l_take) gvAll E (tCons (tVar 0) (tCons (tC (.int 8)) tNil)) tNil)) (tCons (tVar 2) tNil))) tNil) (gName 5))
    (tRet (tTup (tCons (tVar 4) (tCons (tVar 5) (tCons (tVar 2) (tCons (tOp (rIx K) (tVar 3) (tCl 2 0 (liftB K F_l_take) gvAll E (tCons (tVar 0) (tCons (tC (.int 5)) tNil)) tNil)) (tCons (tOp (rEqU K) (tCl 2 0 (liftB K F_l_take) gvAll E (tCons (tVar 0) (tCons (tC (.int 2)) tNil)) tNil) (tC (.int 0))) tNil))))))))))))

def t_l_since (K : PySem.W.Frag) (E : XK) : TS :=
    (tSeq (tAsg (tLst (tCons (tC (.int 0)) (tCons (tCl 2 0 (liftB K F_l_take) gvAll E (tCons (tVar 0) (tCons (tC (.int 30)) tNil)) tNil) (tCons (tCB (rLenU K) (tCons (tOp (rIx K) (tVar 1) (tC (.int 0))) tNil)) (tCons (tOp (rAddU K) (tCB (rLenU K) (tCons (tOp (rIx K) (tVar 1) (tC (.int 0))) tNil)) (tCl 2 0 (liftB K F_l_take) gvAll E (tCons (tVar 0) (tCons (tC (.int 25)) tNil)) tNil)) (tCons (tCl 2 0 (liftB K F_l_take) gvAll E (tCons (tVar 0) (tCons (tOp rSubU (tOp rPowU (tC (.int 10)) (tC (.int 30))) (tC (.int 999))) tNil)) tNil) tNil)))))) (gName 2))
    (tRet (tOp (rIx K) (tVar 2) (tCl 2 0 (liftB K F_l_take) gvAll E (tCons (tVar 0) (tCons (tC (.int 5)) tNil)) tNil))))

theorem pure_l_since {K : PySem.W.Frag} {vs : List V} {H : Hp} {Q : VK} {E : XK} (h : liftB K F_l_since vs H Q E) : t_l_since K E { nx := fun _ H' => Q .non H', rt := Q } (L2.start ["_law_bag_here", "_law_plan_here", "_law_some"] vs) H := by
  obtain ⟨B, h⟩ := h
  exact lift_of (t := t_l_since K) (fun C ds Φ hK hm hE hn ⟨p, e, ok, q⟩ => by
    subst hK hE e
    unfold t_l_since
    have := ok.hl
    refine b_seq (b_asg ?_)
    o_readsAll
    intro a a1 a2
    o_readsAll
    intro b b1 b2
    o_readsAll
    intro c c1 c2
    o_readsAll
    intro v v1 v2
    refine rd_pick v1 v2 fun d hd => ?_
    simp only [List.mem_cons, List.not_mem_nil, or_false, List.cons_append, List.nil_append] at hd
    rcases hd with rfl | rfl | rfl | rfl | rfl <;> exact q _ (by omega) (by omega)) h
theorem pure_l_steps {K : PySem.W.Frag} {vs : List V} {H : Hp} {Q : VK} {E : XK} (h : liftB K F_l_steps vs H Q E) : t_l_steps K E { nx := fun _ H' => Q .non H', rt := Q } (L2.start ["_law_bag_here", "_law_many", "_law_ceiling", "_law_gentle", "_law_steps_here", "_law_k", "_law_by", "_law_some", "_law_way"] vs) H := by
  obtain ⟨B, h⟩ := h
  exact lift_of (t := t_l_steps K) (fun C ds Φ hK hm hE hn ⟨m, c, e, ⟨h1, h2, h3, h4⟩, q⟩ => by
    subst hK hE e
    unfold t_l_steps
    o_readsAll
    intro g g1 g2
    o_readsAll
    refine b_own (en_lst (ea_nil ⟨by decide, ?_⟩))
    refine b_seq (b_forR (fun k δ => ∃ (l : List (Int × Int)) (x5 x6 x7 x8 : Sl), δ = [.d (.adr B.b), .d (.int m), .d (.int c), .d (.int g), .own (l.map stepD), x5, x6, x7, x8] ∧ l.length = k ∧ ∀ s ∈ l, StepOk s) (ea_cons (ev_var rfl (ea_nil rfl))) ⟨by omega, by omega⟩ ⟨[], .no, .no, .no, .no, rfl, rfl, fun s hs => (by cases hs)⟩ ?_ ?_)
    · rintro k δ hk ⟨l, x5, x6, x7, x8, rfl, hl, hs⟩
      o_readsAll
      intro v v1 v2
      o_readsAll
      intro w w1 w2
      have hz : 0 ≤ w * (if decide (g ≠ 1) = true then 1 else 0) ∧ w * (if decide (g ≠ 1) = true then 1 else 0) < 8 := by split <;> omega
      o_readsAll
      refine rd_pick hz.1 hz.2 fun d hd => ?_
      obtain ⟨by_, rfl, y1, y2⟩ : ∃ n : Int, d = .int n ∧ 1 ≤ n ∧ n ≤ 9 := by
        simp only [List.mem_cons, List.not_mem_nil, or_false] at hd
        rcases hd with rfl | rfl | rfl | rfl | rfl | rfl | rfl | rfl <;> exact ⟨_, rfl, by omega, by omega⟩
      clear hd
      refine b_seq (b_own (en_lst ?_))
      o_readsAll
      intro a a1 a2
      o_readsAll
      intro b b1 b2
      o_readsAll
      intro e e1 e2
      o_readsAll
      intro i i1 i2
      refine rd_pick i1 i2 fun d hd => ?_
      obtain ⟨way, rfl, w1, w2⟩ : ∃ n : Int, d = .int n ∧ 0 ≤ n ∧ n ≤ 4 := by
        simp only [List.mem_cons, List.not_mem_nil, or_false] at hd
        rcases hd with rfl | rfl | rfl | rfl | rfl | rfl | rfl | rfl | rfl | rfl | rfl | rfl <;> exact ⟨_, rfl, by omega, by omega⟩
      clear hd
      o_readsAll
      refine rd_pick g1 (by simp only [List.length_cons, List.length_nil]; omega) fun d hd => ?_
      obtain ⟨u, rfl, u1, u2⟩ : ∃ n : Int, d = .int n ∧ 3 ≤ n ∧ n ≤ 5 := by
        simp only [List.mem_cons, List.not_mem_nil, or_false] at hd
        rcases hd with rfl | rfl | rfl <;> exact ⟨_, rfl, by omega, by omega⟩
      clear hd
      have z1 : 0 ≤ way % u := Int.emod_nonneg _ (by omega)
      have z2 : way % u < u := Int.emod_lt_of_pos _ (by omega)
      o_readsAll
      refine rd_pick z1 (by simp only [List.length_cons, List.length_nil, List.length_append]; omega) fun d hd => ?_
      obtain ⟨tk, rfl, t1, t2⟩ : ∃ n : Int, d = .int n ∧ 0 ≤ n ∧ n ≤ 10 ^ 9 := by
        simp only [List.mem_cons, List.not_mem_nil, or_false, List.cons_append, List.nil_append] at hd
        rcases hd with rfl | rfl | rfl | rfl | rfl <;> exact ⟨_, rfl, by omega, by omega⟩
      clear hd
      have hl3 : (List.map stepD l).length < 100000 := by rw [List.length_map]; omega
      o_readsAll
      refine ⟨l ++ [(by_, tk)], .d (.int k), .d (.int by_), .own ([D.int 0, D.int 1, D.int a, D.int b] ++ [D.int e]), .d (.int way), by rw [List.map_append]; rfl, by simp [hl], fun z hz => ?_⟩
      rcases List.mem_append.mp hz with hz | hz
      · exact hs z hz
      · simp at hz; rw [hz]; exact ⟨y1, y2, t1, t2⟩
    · rintro δ ⟨l, x5, x6, x7, x8, rfl, hl, hs⟩
      refine b_retO rfl (q l (by omega) hs)) h
theorem pure_l_plan {K : PySem.W.Frag} {vs : List V} {H : Hp} {Q : VK} {E : XK} (h : liftB K F_l_plan vs H Q E) : t_l_plan K E { nx := fun _ H' => Q .non H', rt := Q } (L2.start ["_law_bag_here", "_law_caps", "_law_ceiling", "_law_lifts", "_law_head", "_law_tail"] vs) H := by
  obtain ⟨B, h⟩ := h
  exact lift_of (t := t_l_plan K) (fun C ds Φ hK hm hE hn ⟨e, q⟩ => by
    subst hK hE e
    unfold t_l_plan
    refine b_seq (b_asg ?_)
    o_readsAll
    intro a a1 a2
    o_readsAll
    intro b b1 b2
    o_readsAll
    intro d d1 d2
    o_readsAll
    intro i i1 i2
    refine rd_pick i1 i2 fun x hd => ?_
    obtain ⟨c, rfl, c1, c2⟩ : ∃ n : Int, x = .int n ∧ 1 ≤ n ∧ n ≤ 10 ^ 9 := by
      simp only [List.mem_cons, List.not_mem_nil, or_false] at hd
      rcases hd with rfl | rfl | rfl | rfl | rfl <;> exact ⟨_, rfl, by omega, by omega⟩
    clear hd
    refine b_seq (b_asg ?_)
    o_readsAll
    intro f f1 f2
    o_readsAll
    intro g g1 g2
    o_readsAll
    intro i i1 i2
    refine rd_pick i1 i2 fun x hd => ?_
    obtain ⟨n, rfl, n1, n2⟩ : ∃ n : Int, x = .int n ∧ 1 ≤ n ∧ n ≤ 25 := by
      simp only [List.mem_cons, List.not_mem_nil, or_false] at hd
      rcases hd with rfl | rfl | rfl <;> exact ⟨_, rfl, by omega, by omega⟩
    clear hd
    o_readsAll
    intro v v1 v2
    o_readsAll
    intro l hl hs
    o_readsAll
    intro i i1 i2
    refine rd_pick i1 i2 fun x hd => ?_
    obtain ⟨m, rfl, hm'⟩ : ∃ n : Nat, x = .int (n : Int) ∧ n ∈ [1, 2, 3, 4, 6, 8, 12, 24] := by
      simp only [List.mem_cons, List.not_mem_nil, or_false] at hd
      rcases hd with rfl | rfl | rfl | rfl | rfl | rfl | rfl | rfl
      · exact ⟨1, rfl, by decide⟩
      · exact ⟨2, rfl, by decide⟩
      · exact ⟨3, rfl, by decide⟩
      · exact ⟨4, rfl, by decide⟩
      · exact ⟨6, rfl, by decide⟩
      · exact ⟨8, rfl, by decide⟩
      · exact ⟨12, rfl, by decide⟩
      · exact ⟨24, rfl, by decide⟩
    clear hd
    have hm2 : m ≤ 24 := by
      simp only [List.mem_cons, List.not_mem_nil, or_false] at hm'
      omega
    o_readsAll
    intro l' hl' hs'
    have hl2 : l'.length = m := by omega
    o_readsAll
    intro i i1 i2
    refine rd_pick i1 i2 fun x hd => ?_
    obtain ⟨u, rfl, u1, u2⟩ : ∃ n : Int, x = .int n ∧ 0 ≤ n ∧ n ≤ 10 ^ 9 := by
      simp only [List.mem_cons, List.not_mem_nil, or_false] at hd
      rcases hd with rfl | rfl | rfl | rfl | rfl <;> exact ⟨_, rfl, by omega, by omega⟩
    clear hd
    o_readsAll
    intro z z1 z2
    o_readsAll
    exact q ⟨l, l', c, u, _⟩ ⟨by show l.length ≤ 24; omega, by show l'.length ∈ _; rw [hl2]; exact hm', hs, hs', c1, c2, u1, u2⟩) h

def t_l_coming (K : PySem.W.Frag) (E : XK) : TS :=
    (tSeq (tAsg (tSl (rSlU K) (tVar 0) tNoPart (tPart (tC (.int 2)))) (gTup K 2 (gCons (gName 2) (gCons (gName 3) gNil))))
    (tSeq (tIfS (tTest (tOp rLtU (tVar 1) (tCB (rLenU K) (tCons (tVar 2) tNil))))
     (tRet (tOp (rIx K) (tVar 2) (tVar 1)))
     tNext)
    (tRet (tOp (rIx K) (tVar 3) (tOp rModU (tOp rSubU (tVar 1) (tCB (rLenU K) (tCons (tVar 2) tNil))) (tCB (rLenU K) (tCons (tVar 3) tNil)))))))
theorem pure_l_coming {K : PySem.W.Frag} {vs : List V} {H : Hp} {Q : VK} {E : XK} (h : lift K pureM (F_l_coming K) vs H Q E) : t_l_coming K E { nx := fun _ H' => Q .non H', rt := Q } (L2.start ["_law_plan_here", "_law_waited", "_law_head", "_law_tail"] vs) H :=
  lift_of (t := t_l_coming K) (fun C ds Φ hK hm hE hn ⟨p, n, e, ⟨ok, hn0⟩, q⟩ => by
    subst hK hE e
    unfold t_l_coming
    have tp := ok.tpos
    unfold Plan.coming at q
    refine b_seq (b_asgG (ev_plan2 rfl (ev_var rfl ⟨p, rfl, ?_⟩)))
    o_readsAll
    · rename_i z
      rw [if_pos z] at q
      exact q
    · rename_i z
      rw [if_neg z] at q
      have b1 : 0 ≤ (n - p.hs.length) % (p.ts.length : Int) := Int.emod_nonneg _ (by omega)
      have b2 : (n - p.hs.length) % (p.ts.length : Int) < p.ts.length := Int.emod_lt_of_pos _ (by omega)
      exact rd_atD b1 b2 q) h
end Wn.G
end

section
/-! Effects of rows. -/
namespace Wn
open PySem PySem.Spec PyProof.Rows L2
local macro_rules | `(tactic| o_shape) => `(tactic| first | assumption | rfl | trivial | omega | decide)
local macro_rules | `(tactic| o_reads) => `(tactic| first | fail "no rule" | fail)
local macro_rules | `(tactic| o_reads) => `(tactic| first | (apply Exists.intro; (repeat apply Exists.intro); exact rfl) | fail)
local macro_rules | `(tactic| o_reads) => `(tactic| first | refine And.intro (by omega) ?_ | fail)
local macro_rules | `(tactic| o_reads) => `(tactic| first | refine And.intro (by assumption) ?_ | fail)
local macro_rules | `(tactic| o_reads) => `(tactic| first | refine And.intro (by assumption : Plan.Ok _) ?_ | fail)
local macro_rules | `(tactic| o_reads) => `(tactic| first | refine ⟨by exact Nat.le_of_ble_eq_true rfl, ?_⟩ | fail)
local macro_rules | `(tactic| o_reads) => `(tactic| first | refine ⟨rfl, ?_⟩ | fail)
local macro_rules | `(tactic| o_reads) => `(tactic| first | refine ⟨_, _, _, _, rfl, ?_⟩ | fail)
local macro_rules | `(tactic| o_reads) => `(tactic| first | refine ⟨_, _, _, rfl, ?_⟩ | fail)
local macro_rules | `(tactic| o_reads) => `(tactic| first | refine ⟨_, _, rfl, ?_⟩ | fail)
local macro_rules | `(tactic| o_reads) => `(tactic| first | refine ⟨_, rfl, ?_⟩ | fail)
local macro_rules | `(tactic| o_reads) => `(tactic| first | refine And.intro (And.intro (by first | decide | omega) (by first | decide | omega)) ?_ | fail)
local macro_rules | `(tactic| o_reads) => `(tactic| first | with_reducible refine eo_part ?_ | fail)
local macro_rules | `(tactic| o_reads) => `(tactic| first | with_reducible refine eo_none ?_ | fail)
local macro_rules | `(tactic| o_reads) => `(tactic| first | (((with_reducible apply rd_atM); (first | assumption | omega)); assumption) | fail)
local macro_rules | `(tactic| o_reads) => `(tactic| first | refine ⟨fit_step (coming_ok (by assumption) _), ?_⟩ | fail)
local macro_rules | `(tactic| o_reads) => `(tactic| first | refine ⟨fit_int ⟨by omega, by omega⟩, ?_⟩ | fail)
local macro_rules | `(tactic| o_reads) => `(tactic| first | ((with_reducible refine rc_isW ?_ ?_); assumption) | fail)
local macro_rules | `(tactic| o_reads) => `(tactic| first | with_reducible refine ev_adr ?_ | fail)
local macro_rules | `(tactic| o_reads) => `(tactic| first | with_reducible exact rfl | fail)
local macro_rules | `(tactic| o_reads) => `(tactic| first | exact dn_t (by omega) | fail)
local macro_rules | `(tactic| o_reads) => `(tactic| first | exact dn_f (by omega) | fail)
local macro_rules | `(tactic| o_reads) => `(tactic| first | exact decide_eq_true (by omega) | fail)
local macro_rules | `(tactic| o_reads) => `(tactic| first | exact decide_eq_false (by omega) | fail)
local macro_rules | `(tactic| o_reads) => `(tactic| first | exact (rfl : (!true) = false) | fail)
local macro_rules | `(tactic| o_reads) => `(tactic| first | refine sprn (fun z => ?_) (fun z => ?_) | fail)
local macro_rules | `(tactic| o_reads) => `(tactic| first | refine spln (fun z => ?_) (fun z => ?_) | fail)
local macro_rules | `(tactic| o_reads) => `(tactic| first | refine spr (fun z => ?_) (fun z => ?_) | fail)
local macro_rules | `(tactic| o_reads) => `(tactic| first | refine spl (fun z => ?_) (fun z => ?_) | fail)
local macro_rules | `(tactic| o_reads) => `(tactic| first | with_reducible refine spNF ?_ | fail)
local macro_rules | `(tactic| o_reads) => `(tactic| first | with_reducible refine spNT ?_ | fail)
local macro_rules | `(tactic| o_reads) => `(tactic| first | refine sprn (fun _ => ?_) (fun z => absurd z (by omega)) | fail)
local macro_rules | `(tactic| o_reads) => `(tactic| first | refine sprn (fun z => absurd z (by omega)) (fun _ => ?_) | fail)
local macro_rules | `(tactic| o_reads) => `(tactic| first | refine spln (fun _ => ?_) (fun z => absurd z (by omega)) | fail)
local macro_rules | `(tactic| o_reads) => `(tactic| first | refine spln (fun z => absurd z (by omega)) (fun _ => ?_) | fail)
local macro_rules | `(tactic| o_reads) => `(tactic| first | refine spr (fun _ => ?_) (fun z => absurd z (by omega)) | fail)
local macro_rules | `(tactic| o_reads) => `(tactic| first | refine spr (fun z => absurd z (by omega)) (fun _ => ?_) | fail)
local macro_rules | `(tactic| o_reads) => `(tactic| first | refine spl (fun _ => ?_) (fun z => absurd z (by omega)) | fail)
local macro_rules | `(tactic| o_reads) => `(tactic| first | refine spl (fun z => absurd z (by omega)) (fun _ => ?_) | fail)
local macro_rules | `(tactic| o_reads) => `(tactic| first | with_reducible refine sprf ?_ | fail)
local macro_rules | `(tactic| o_reads) => `(tactic| first | with_reducible refine sprt ?_ | fail)
local macro_rules | `(tactic| o_reads) => `(tactic| first | with_reducible refine spff ?_ | fail)
local macro_rules | `(tactic| o_reads) => `(tactic| first | with_reducible refine sptt ?_ | fail)
local macro_rules | `(tactic| o_reads) => `(tactic| first | ((with_reducible refine ev_wm rfl ?_ ?_); decide +kernel) | fail)
local macro_rules | `(tactic| o_reads) => `(tactic| first | ((with_reducible refine ev_anew ?_ ?_); assumption) | fail)
local macro_rules | `(tactic| o_reads) => `(tactic| first | ((with_reducible refine ev_up ?_ ?_); assumption) | fail)
local macro_rules | `(tactic| o_reads) => `(tactic| first | ((with_reducible refine ev_cap ?_ ?_); assumption) | fail)
local macro_rules | `(tactic| o_reads) => `(tactic| first | ((with_reducible refine ev_ts ?_ ?_); assumption) | fail)
local macro_rules | `(tactic| o_reads) => `(tactic| first | ((with_reducible refine ev_hs ?_ ?_); assumption) | fail)
local macro_rules | `(tactic| o_reads) => `(tactic| first | (((with_reducible apply ev_clB (hg := gAll) (hK := rfl)); assumption); assumption) | fail)
local macro_rules | `(tactic| o_reads) => `(tactic| first | (((with_reducible apply ev_tk rfl); assumption); assumption) | fail)
local macro_rules | `(tactic| o_reads) => `(tactic| first | with_reducible refine ev_cl Sub.pure gAll ?_ | fail)
local macro_rules | `(tactic| o_reads) => `(tactic| first | with_reducible refine ev_withinI rfl ?_ | fail)
local macro_rules | `(tactic| o_reads) => `(tactic| first | with_reducible refine ev_strengthI rfl ?_ | fail)
local macro_rules | `(tactic| o_reads) => `(tactic| first | with_reducible refine ev_sizeI rfl ?_ | fail)
local macro_rules | `(tactic| o_reads) => `(tactic| first | with_reducible refine ev_momentI rfl ?_ | fail)
local macro_rules | `(tactic| o_reads) => `(tactic| first | with_reducible refine ev_wholeI rfl ?_ | fail)
local macro_rules | `(tactic| o_reads) => `(tactic| first | with_reducible refine rd_asg ?_ | fail)
local macro_rules | `(tactic| o_reads) => `(tactic| first | with_reducible refine rd_dot ?_ | fail)
local macro_rules | `(tactic| o_reads) => `(tactic| first | with_reducible refine rc_lenRow (by omega) ?_ | fail)
local macro_rules | `(tactic| o_reads) => `(tactic| first | with_reducible refine ev_isrow rfl ?_ | fail)
local macro_rules | `(tactic| o_reads) => `(tactic| first | with_reducible refine ev_new (en_listRg ?_) | fail)
local macro_rules | `(tactic| o_reads) => `(tactic| first | with_reducible refine ev_new (en_rev rfl ?_) | fail)
local macro_rules | `(tactic| o_reads) => `(tactic| first | ((with_reducible refine rc_isS ?_ ?_); first | assumption | (simp [D.tyn]; done) | (apply plainD.ty; assumption)) | fail)
local macro_rules | `(tactic| o_reads) => `(tactic| first | ((with_reducible refine rc_isT ?_ ?_); first | assumption | (simp [D.tyn]; done) | (apply plainD.ty; assumption)) | fail)
local macro_rules | `(tactic| o_reads) => `(tactic| first | ((with_reducible refine rc_isL ?_ ?_); first | assumption | (simp [D.tyn]; done) | (apply plainD.ty; assumption)) | fail)
local macro_rules | `(tactic| o_reads) => `(tactic| first | ((with_reducible refine rc_isB ?_ ?_); first | assumption | (simp [D.tyn]; done) | (apply plainD.ty; assumption)) | fail)
local macro_rules | `(tactic| o_reads) => `(tactic| first | ((with_reducible refine rc_isI ?_ ?_); first | assumption | (simp [D.tyn]; done) | (apply plainD.ty; assumption)) | fail)
local macro_rules | `(tactic| o_reads) => `(tactic| first | with_reducible refine rc_intB ?_ | fail)
local macro_rules | `(tactic| o_reads) => `(tactic| first | with_reducible refine rc_intI ?_ | fail)
local macro_rules | `(tactic| o_reads) => `(tactic| first | with_reducible refine rc_min ?_ | fail)
local macro_rules | `(tactic| o_reads) => `(tactic| first | with_reducible refine rc_max ?_ | fail)
local macro_rules | `(tactic| o_reads) => `(tactic| first | with_reducible refine rc_abs ?_ | fail)
local macro_rules | `(tactic| o_reads) => `(tactic| first | with_reducible refine rc_lenT ?_ | fail)
local macro_rules | `(tactic| o_reads) => `(tactic| first | with_reducible refine rc_lenL ?_ | fail)
local macro_rules | `(tactic| o_reads) => `(tactic| first | with_reducible refine rc_lenD ?_ | fail)
local macro_rules | `(tactic| o_reads) => `(tactic| first | with_reducible refine rd_notN ?_ | fail)
local macro_rules | `(tactic| o_reads) => `(tactic| first | with_reducible refine rd_isN ?_ | fail)
local macro_rules | `(tactic| o_reads) => `(tactic| first | with_reducible refine rd_notNn ?_ | fail)
local macro_rules | `(tactic| o_reads) => `(tactic| first | with_reducible refine rd_isNn ?_ | fail)
local macro_rules | `(tactic| o_reads) => `(tactic| first | with_reducible refine rd_notNe ?_ | fail)
local macro_rules | `(tactic| o_reads) => `(tactic| first | with_reducible refine rd_isNe ?_ | fail)
local macro_rules | `(tactic| o_reads) => `(tactic| first | ((with_reducible apply rd_ixL); exact rfl) | fail)
local macro_rules | `(tactic| o_reads) => `(tactic| first | ((with_reducible apply rd_ixT); exact rfl) | fail)
local macro_rules | `(tactic| o_reads) => `(tactic| first | (((with_reducible refine rd_atD ?_ ?_ ?_); (first | assumption | omega)); (first | assumption | omega)) | fail)
local macro_rules | `(tactic| o_reads) => `(tactic| first | with_reducible refine rd_p4 ?_ | fail)
local macro_rules | `(tactic| o_reads) => `(tactic| first | with_reducible refine rd_p3 ?_ | fail)
local macro_rules | `(tactic| o_reads) => `(tactic| first | with_reducible refine rd_p2 ?_ | fail)
local macro_rules | `(tactic| o_reads) => `(tactic| first | with_reducible refine rd_p1 ?_ | fail)
local macro_rules | `(tactic| o_reads) => `(tactic| first | with_reducible refine rd_p0 ?_ | fail)
local macro_rules | `(tactic| o_reads) => `(tactic| first | ((with_reducible refine rd_neg1 ?_ ?_); assumption) | fail)
local macro_rules | `(tactic| o_reads) => `(tactic| first | with_reducible refine rd_s1 ?_ | fail)
local macro_rules | `(tactic| o_reads) => `(tactic| first | with_reducible refine rd_s0 ?_ | fail)
local macro_rules | `(tactic| o_reads) => `(tactic| first | with_reducible refine rd_negT ?_ | fail)
local macro_rules | `(tactic| o_reads) => `(tactic| first | with_reducible refine rd_e3 ?_ | fail)
local macro_rules | `(tactic| o_reads) => `(tactic| first | with_reducible refine rd_e2 ?_ | fail)
local macro_rules | `(tactic| o_reads) => `(tactic| first | with_reducible refine rd_e1 ?_ | fail)
local macro_rules | `(tactic| o_reads) => `(tactic| first | with_reducible refine rd_e0 ?_ | fail)
local macro_rules | `(tactic| o_reads) => `(tactic| first | with_reducible refine ru_neg ?_ | fail)
local macro_rules | `(tactic| o_reads) => `(tactic| first | (((with_reducible refine rd_pow ?_ ?_); exact ⟨by decide, by decide, by decide⟩); dsimp only [Int.reduceToNat]) | fail)
local macro_rules | `(tactic| o_reads) => `(tactic| first | with_reducible refine rd_mul ?_ ?_ | fail)
local macro_rules | `(tactic| o_reads) => `(tactic| first | (((with_reducible refine rd_mulL ?_ ?_ ?_); (first | assumption | exact EfLg.l (by assumption) | exact EfLg.a (by assumption) | exact EfLg.b (by assumption))); (first | assumption | exact EfLg.b (by assumption))) | fail)
local macro_rules | `(tactic| o_reads) => `(tactic| first | ((with_reducible refine rd_mul ?_ ?_); first | exact .inl ⟨by omega, by omega⟩ | exact .inr ⟨by omega, by omega⟩) | fail)
local macro_rules | `(tactic| o_reads) => `(tactic| first | with_reducible refine rd_div ?_ ?_ | fail)
local macro_rules | `(tactic| o_reads) => `(tactic| first | ((with_reducible refine rd_div ?_ ?_); exact ⟨by o_shape, by first | decide | (apply lg <;> omega)⟩) | fail)
local macro_rules | `(tactic| o_reads) => `(tactic| first | (((with_reducible refine rd_divL ?_ ?_ ?_); omega); (first | assumption | exact EfLg.b (by assumption))) | fail)
local macro_rules | `(tactic| o_reads) => `(tactic| first | with_reducible refine rd_mod ?_ ?_ | fail)
local macro_rules | `(tactic| o_reads) => `(tactic| first | ((with_reducible refine rd_mod ?_ ?_); o_shape) | fail)
local macro_rules | `(tactic| o_reads) => `(tactic| first | with_reducible refine rd_ge ?_ | fail)
local macro_rules | `(tactic| o_reads) => `(tactic| first | with_reducible refine rd_gt ?_ | fail)
local macro_rules | `(tactic| o_reads) => `(tactic| first | with_reducible refine rd_le ?_ | fail)
local macro_rules | `(tactic| o_reads) => `(tactic| first | with_reducible refine rd_lt ?_ | fail)
local macro_rules | `(tactic| o_reads) => `(tactic| first | with_reducible refine rd_neS ?_ | fail)
local macro_rules | `(tactic| o_reads) => `(tactic| first | with_reducible refine rd_neI2 ?_ | fail)
local macro_rules | `(tactic| o_reads) => `(tactic| first | with_reducible refine rd_eqS ?_ | fail)
local macro_rules | `(tactic| o_reads) => `(tactic| first | with_reducible refine rd_eqB ?_ | fail)
local macro_rules | `(tactic| o_reads) => `(tactic| first | with_reducible refine rd_eqI ?_ | fail)
local macro_rules | `(tactic| o_reads) => `(tactic| first | with_reducible refine rd_sub ?_ | fail)
local macro_rules | `(tactic| o_reads) => `(tactic| first | with_reducible refine rd_addI ?_ | fail)
local macro_rules | `(tactic| o_reads) => `(tactic| first | with_reducible refine g_tup rfl ?_ | fail)
local macro_rules | `(tactic| o_reads) => `(tactic| first | with_reducible refine gs_nil ?_ | fail)
local macro_rules | `(tactic| o_reads) => `(tactic| first | with_reducible refine gs_cons ?_ | fail)
local macro_rules | `(tactic| o_reads) => `(tactic| first | with_reducible refine g_name ?_ | fail)
local macro_rules | `(tactic| o_reads) => `(tactic| first | ((fail_if_success (with_reducible refine b_asgLst ?_)); (with_reducible refine b_asgG ?_)) | fail)
local macro_rules | `(tactic| o_reads) => `(tactic| first | ((with_reducible apply b_aug); exact rfl) | fail)
local macro_rules | `(tactic| o_reads) => `(tactic| first | with_reducible refine b_par ?_ | fail)
local macro_rules | `(tactic| o_reads) => `(tactic| first | with_reducible refine b_drop ?_ | fail)
local macro_rules | `(tactic| o_reads) => `(tactic| first | ((with_reducible apply b_ext rfl); exact rfl) | fail)
local macro_rules | `(tactic| o_reads) => `(tactic| first | ((with_reducible apply b_clr rfl); exact rfl) | fail)
local macro_rules | `(tactic| o_reads) => `(tactic| first | ((with_reducible apply b_rev rfl); exact rfl) | fail)
local macro_rules | `(tactic| o_reads) => `(tactic| first | ((with_reducible apply b_app rfl); exact rfl) | fail)
local macro_rules | `(tactic| o_reads) => `(tactic| first | with_reducible refine b_cont ?_ | fail)
local macro_rules | `(tactic| o_reads) => `(tactic| first | with_reducible refine b_brk ?_ | fail)
local macro_rules | `(tactic| o_reads) => `(tactic| first | with_reducible refine b_retN ?_ | fail)
local macro_rules | `(tactic| o_reads) => `(tactic| first | ((fail_if_success (with_reducible refine b_asgLst ?_)); (with_reducible refine b_asg ?_)) | fail)
local macro_rules | `(tactic| o_reads) => `(tactic| first | with_reducible refine b_next ?_ | fail)
local macro_rules | `(tactic| o_reads) => `(tactic| first | with_reducible refine b_ret ?_ | fail)
local macro_rules | `(tactic| o_reads) => `(tactic| first | with_reducible refine b_if ?_ | fail)
local macro_rules | `(tactic| o_reads) => `(tactic| first | with_reducible refine b_ifR ?_ ?_ | fail)
local macro_rules | `(tactic| o_reads) => `(tactic| first | with_reducible refine b_seq ?_ | fail)
local macro_rules | `(tactic| o_reads) => `(tactic| first | with_reducible refine ev_chain ?_ | fail)
local macro_rules | `(tactic| o_reads) => `(tactic| first | with_reducible refine ev_if ?_ | fail)
local macro_rules | `(tactic| o_reads) => `(tactic| first | with_reducible refine ev_notV ?_ | fail)
local macro_rules | `(tactic| o_reads) => `(tactic| first | with_reducible refine ev_orV ?_ | fail)
local macro_rules | `(tactic| o_reads) => `(tactic| first | with_reducible refine ev_andV ?_ | fail)
local macro_rules | `(tactic| o_reads) => `(tactic| first | with_reducible refine ev_lst ?_ | fail)
local macro_rules | `(tactic| o_reads) => `(tactic| first | with_reducible refine ev_tup ?_ | fail)
local macro_rules | `(tactic| o_reads) => `(tactic| first | with_reducible refine et_or ?_ | fail)
local macro_rules | `(tactic| o_reads) => `(tactic| first | with_reducible refine et_and ?_ | fail)
local macro_rules | `(tactic| o_reads) => `(tactic| first | with_reducible refine et_not ?_ | fail)
local macro_rules | `(tactic| o_reads) => `(tactic| first | with_reducible refine et_b ?_ | fail)
local macro_rules | `(tactic| o_reads) => `(tactic| first | with_reducible refine et_test ?_ | fail)
local macro_rules | `(tactic| o_reads) => `(tactic| first | with_reducible refine ev_cb ?_ | fail)
local macro_rules | `(tactic| o_reads) => `(tactic| first | with_reducible refine ev_un ?_ | fail)
local macro_rules | `(tactic| o_reads) => `(tactic| first | with_reducible refine ev_op ?_ | fail)
local macro_rules | `(tactic| o_reads) => `(tactic| first | ((with_reducible apply ev_lenO rfl); exact rfl) | fail)
local macro_rules | `(tactic| o_reads) => `(tactic| first | ((with_reducible apply ev_ixO rfl); exact rfl) | fail)
local macro_rules | `(tactic| o_reads) => `(tactic| first | with_reducible refine ea_cons ?_ | fail)
local macro_rules | `(tactic| o_reads) => `(tactic| first | with_reducible refine ea_nil ?_ | fail)
local macro_rules | `(tactic| o_reads) => `(tactic| first | with_reducible refine ev_ty ?_ | fail)
local macro_rules | `(tactic| o_reads) => `(tactic| first | with_reducible refine ev_non ?_ | fail)
local macro_rules | `(tactic| o_reads) => `(tactic| first | with_reducible refine ev_bl ?_ | fail)
local macro_rules | `(tactic| o_reads) => `(tactic| first | with_reducible refine ev_str ?_ | fail)
local macro_rules | `(tactic| o_reads) => `(tactic| first | with_reducible refine ev_int ?_ | fail)
local macro_rules | `(tactic| o_reads) => `(tactic| first | ((with_reducible apply ev_var); exact rfl) | fail)
local macro_rules | `(tactic| o_readsAll) => `(tactic| repeat' o_reads)
structure Ef where
  least : Int
  add : Int
  by_ : Int
  top : Int
def efD (x : Ef) : D := .tup [.int x.least, .int x.add, .int x.by_, .int x.top]
def efO : Option Ef → D
  | none => .non
  | some x => efD x
def joinE (x y : Ef) : Option Ef := if x.top < y.least then none else some ⟨max x.least (y.least * x.by_ - x.add), x.add + y.add * x.by_, x.by_ * y.by_, min y.top ((x.top + y.add) / y.by_)⟩
def turnE (s : Int × Int) (c : Int) : Option Ef := if c / s.1 - s.2 < 1 then none else some ⟨s.1 * (s.2 + 1), -(s.1 * s.2), s.1, c / s.1 - s.2⟩
def askE (p : Plan) : Ef := ⟨1, p.up, 1, p.cap⟩
def oneE (p : Plan) : Ef := ⟨1, 0, 1, p.cap⟩
def Plan.sncs (p : Plan) (n : Int) (b : Bool) : Int := if b then (if p.anew then 0 else n) else n + 1
def Plan.part (p : Plan) (n : Int) (b : Bool) : Option Ef := if b then some (askE p) else turnE (p.coming n) p.cap
def Plan.stepE (p : Plan) (x : Ef) (n : Int) (b : Bool) : Option Ef := (p.part n b).bind (joinE x)
def Plan.eff (p : Plan) : Ef → Int → List Bool → Option Ef
  | x, _, [] => some x
  | x, n, b :: r => (p.stepE x n b).bind fun y => p.eff y (p.sncs n b) r
def thr : Option Ef → Int → Int
  | none, _ => 0
  | some x, s => if s < x.least then 0 else min x.top ((s + x.add) / x.by_)
theorem eff_cons (p : Plan) (x : Ef) (n : Int) (b : Bool) (r : List Bool) : p.eff x n (b :: r) = (p.stepE x n b).bind fun y => p.eff y (p.sncs n b) r := rfl
theorem drop_cons {α : Type} {l : List α} {k : Nat} {b : α} (h : l[k]? = some b) : l.drop k = b :: l.drop (k + 1) := by
  obtain ⟨hk, e⟩ := List.getElem?_eq_some_iff.mp h
  rw [← e]
  exact List.drop_eq_getElem_cons hk
/-! sizes -/
def Lg (i : Int) : Prop := i.natAbs.log2 < 8000
theorem Lg.of {i : Int} {k : Nat} (hk : k ≤ 7999) (h : -(2 ^ k) ≤ i ∧ i ≤ 2 ^ k) : Lg i := by
  unfold Lg
  by_cases hz : i.natAbs = 0
  · rw [hz]; decide
  · have h1 : i.natAbs ≤ 2 ^ k := by
      have e : ((2 ^ k : Nat) : Int) = 2 ^ k := by simp
      omega
    have h2 : i.natAbs < 2 ^ 8000 := Nat.lt_of_le_of_lt h1 (Nat.pow_lt_pow_right (by decide) (by omega))
    exact (Nat.log2_lt hz).mpr h2
theorem Lg.small {i : Int} (h : -(10 ^ 40) ≤ i ∧ i ≤ 10 ^ 40) : Lg i := Lg.of (k := 200) (by decide) (by
  have e : (10 : Int) ^ 40 ≤ 2 ^ 200 := by decide
  omega)
theorem rd_mulL {K : PySem.W.Frag} {i j : Int} {Φ : D → Prop} (h1 : Lg i) (h2 : Lg j) (q : Φ (.int (i * j))) : RD K rMulU (.int i) (.int j) Φ := rd_mulW (by unfold Lg at h1 h2; unfold CMulW; omega) q
theorem rd_divL {K : PySem.W.Frag} {i j : Int} {Φ : D → Prop} (h1 : 0 < j) (h2 : Lg j) (q : Φ (.int (i / j))) : RD K rDivU (.int i) (.int j) Φ := rd_div ⟨h1, by unfold Lg at h2; omega⟩ q
structure EfLg (x : Ef) : Prop where
  l : Lg x.least
  a : Lg x.add
  b : Lg x.by_
  t : Lg x.top
  p : 1 ≤ x.by_
/-- sizes behind k signs -/
structure EfOk (k : Nat) (x : Ef) : Prop where
  l1 : 1 ≤ x.least
  l2 : x.least ≤ 200000000000 * 16 ^ k
  a1 : -(100000000000 * 16 ^ k) ≤ x.add
  a2 : x.add ≤ 100000000000 * 16 ^ k
  b1 : 1 ≤ x.by_
  b2 : x.by_ ≤ 16 ^ k
  t1 : 1 ≤ x.top
  t2 : x.top ≤ 10 ^ 9
theorem pow16 (k : Nat) : (1 : Int) ≤ 16 ^ k := by
  have : (1 : Nat) ≤ 16 ^ k := Nat.pow_pos (by decide)
  exact_mod_cast this
theorem pow16_2 (k : Nat) : (16 : Int) ^ k = 2 ^ (4 * k) := by rw [Int.pow_mul]; rfl
theorem EfOk.lg {k : Nat} {x : Ef} (h : EfOk k x) (hk : k ≤ 1900) : EfLg x := by
  have hp := pow16 k
  have e : (2 : Int) ^ (4 * k + 40) = 16 ^ k * 2 ^ 40 := by rw [Int.pow_add, ← pow16_2]
  have key : ∀ i : Int, -(200000000000 * 16 ^ k) ≤ i → i ≤ 200000000000 * 16 ^ k → Lg i := fun i h1 h2 => Lg.of (k := 4 * k + 40) (by omega) (by
    rw [e]
    have : (2 : Int) ^ 40 = 1099511627776 := by decide
    rw [this]
    generalize (16 : Int) ^ k = P at hp h1 h2
    omega)
  obtain ⟨l1, l2, a1, a2, b1, b2, t1, t2⟩ := h
  generalize hP : (16 : Int) ^ k = P at *
  exact ⟨key _ (by omega) (by omega), key _ (by omega) (by omega), key _ (by omega) (by omega), key _ (by omega) (by omega), b1⟩
theorem EfOk.fit {k : Nat} {x : Ef} (h : EfOk k x) (hk : k ≤ 400) : Fit (efD x) := by
  have hp := pow16 k
  have e : (2 : Int) ^ (4 * k + 40) = 16 ^ k * 2 ^ 40 := by rw [Int.pow_add, ← pow16_2]
  have key : ∀ i : Int, -(200000000000 * 16 ^ k) ≤ i → i ≤ 200000000000 * 16 ^ k → D.ok 29 (.int i) = true := fun i h1 h2 => by
    have g : -(2 ^ (4 * k + 40)) ≤ i ∧ i ≤ 2 ^ (4 * k + 40) := by
      rw [e]
      have : (2 : Int) ^ 40 = 1099511627776 := by decide
      rw [this]
      generalize (16 : Int) ^ k = P at hp h1 h2
      omega
    have h3 : i.natAbs.log2 < 1920 := by
      by_cases hz : i.natAbs = 0
      · rw [hz]; decide
      · have h4 : i.natAbs ≤ 2 ^ (4 * k + 40) := by
          have e : ((2 ^ (4 * k + 40) : Nat) : Int) = 2 ^ (4 * k + 40) := by simp
          omega
        exact (Nat.log2_lt hz).mpr (Nat.lt_of_le_of_lt h4 (Nat.pow_lt_pow_right (by decide) (by omega)))
    simpa [D.ok] using h3
  obtain ⟨l1, l2, a1, a2, b1, b2, t1, t2⟩ := h
  refine ⟨?_, by simp [efD, D.wt, D.wts]⟩
  show D.oks 29 [.int x.least, .int x.add, .int x.by_, .int x.top] = true
  generalize hP : (16 : Int) ^ k = P at *
  exact oks_iff fun y hy => by
    simp only [List.mem_cons, List.not_mem_nil, or_false] at hy
    rcases hy with rfl | rfl | rfl | rfl <;> exact key _ (by omega) (by omega)
theorem fit_non : Fit .non := ⟨by simp [D.ok], by simp [D.wt]⟩
/-- a sign's part -/
structure PartOk (y : Ef) : Prop where
  l1 : 1 ≤ y.least
  l2 : y.least ≤ 9000000009
  a1 : -9000000000 ≤ y.add
  a2 : y.add ≤ 9000000000
  b1 : 1 ≤ y.by_
  b2 : y.by_ ≤ 9
  t1 : 1 ≤ y.top
  t2 : y.top ≤ 10 ^ 9
  on : y.by_ ≤ y.least + y.add
theorem mul_le9 {a b : Int} (h1 : 1 ≤ a) (h2 : a ≤ 9) (h3 : 0 ≤ b) : a * b ≤ 9 * b := Int.mul_le_mul_of_nonneg_right h2 h3
theorem part_ok {p : Plan} (ok : p.Ok) {n : Int} {b : Bool} {y : Ef} (h : p.part n b = some y) : PartOk y := by
  have c1 := ok.c1
  have c2 := ok.c2
  have u1 := ok.u1
  have u2 := ok.u2
  obtain ⟨s1, s2, s3, s4⟩ := coming_ok ok n
  unfold Plan.part at h
  cases b with
  | true =>
    cases h
    exact ⟨Int.le_refl _, by show (1 : Int) ≤ _; omega, by show -9000000000 ≤ p.up; omega, by show p.up ≤ _; omega, Int.le_refl _, by show (1 : Int) ≤ 9; omega, c1, c2, by show (1 : Int) ≤ 1 + p.up; omega⟩
  | false =>
    have h' : turnE (p.coming n) p.cap = some y := h
    unfold turnE at h'
    split at h'
    · cases h'
    · rename_i z
      cases h'
      generalize hb : (p.coming n).1 = by_ at *
      generalize ht : (p.coming n).2 = tk at *
      have m1 : 1 * (tk + 1) ≤ by_ * (tk + 1) := Int.mul_le_mul_of_nonneg_right s1 (by omega)
      have m2 : by_ * (tk + 1) ≤ 9 * (tk + 1) := Int.mul_le_mul_of_nonneg_right s2 (by omega)
      have m3 : by_ * tk ≤ 9 * tk := Int.mul_le_mul_of_nonneg_right s2 s3
      have m4 : 0 ≤ by_ * tk := Int.mul_nonneg (by omega) s3
      have m5 : by_ * (tk + 1) = by_ * tk + by_ := by rw [Int.mul_add, Int.mul_one]
      have m6 : p.cap / by_ ≤ p.cap := Int.ediv_le_self _ (by omega)
      exact ⟨by show 1 ≤ by_ * (tk + 1); omega, by show by_ * (tk + 1) ≤ _; omega, by show _ ≤ -(by_ * tk); omega, by show -(by_ * tk) ≤ _; omega, s1, s2, by show 1 ≤ p.cap / by_ - tk; omega, by show p.cap / by_ - tk ≤ _; omega, by show by_ ≤ by_ * (tk + 1) + -(by_ * tk); omega⟩
theorem join_ok {k : Nat} {x y z : Ef} (hx : EfOk k x) (hy : PartOk y) (h : joinE x y = some z) : EfOk (k + 1) z := by
  obtain ⟨l1, l2, a1, a2, b1, b2, t1, t2⟩ := hx
  obtain ⟨k1, k2, c1, c2, d1, d2, u1, u2, on⟩ := hy
  unfold joinE at h
  split at h
  · cases h
  · rename_i hz
    cases h
    have hp := pow16 k
    have e : (16 : Int) ^ (k + 1) = 16 * 16 ^ k := by rw [Int.pow_succ, Int.mul_comm]
    have m1 : y.least * x.by_ ≤ 9000000009 * x.by_ := Int.mul_le_mul_of_nonneg_right k2 (by omega)
    have m0 : 0 ≤ y.least * x.by_ := Int.mul_nonneg (by omega) (by omega)
    have m2 : y.add * x.by_ ≤ 9000000000 * x.by_ := Int.mul_le_mul_of_nonneg_right c2 (by omega)
    have m3 : -9000000000 * x.by_ ≤ y.add * x.by_ := Int.mul_le_mul_of_nonneg_right c1 (by omega)
    have m4 : x.by_ * y.by_ ≤ x.by_ * 9 := Int.mul_le_mul_of_nonneg_left d2 (by omega)
    have m5 : x.by_ * 1 ≤ x.by_ * y.by_ := Int.mul_le_mul_of_nonneg_left d1 (by omega)
    have m6 : 1 ≤ (x.top + y.add) / y.by_ := (Int.le_ediv_iff_mul_le (by omega)).mpr (by omega)
    refine ⟨?_, ?_, ?_, ?_, ?_, ?_, ?_, ?_⟩
    · show 1 ≤ max x.least _
      omega
    · show max x.least (y.least * x.by_ - x.add) ≤ _
      rw [e]
      generalize (16 : Int) ^ k = P at *
      omega
    · show _ ≤ x.add + y.add * x.by_
      rw [e]
      generalize (16 : Int) ^ k = P at *
      omega
    · show x.add + y.add * x.by_ ≤ _
      rw [e]
      generalize (16 : Int) ^ k = P at *
      omega
    · show 1 ≤ x.by_ * y.by_
      omega
    · show x.by_ * y.by_ ≤ _
      rw [e]
      generalize (16 : Int) ^ k = P at *
      omega
    · show 1 ≤ min y.top _
      omega
    · show min y.top _ ≤ _
      omega
theorem one_ok {p : Plan} (ok : p.Ok) : EfOk 0 (oneE p) := by
  have c1 := ok.c1
  have c2 := ok.c2
  exact ⟨Int.le_refl _, by show (1 : Int) ≤ 200000000000 * 16 ^ 0; decide, by show -(100000000000 * 16 ^ 0) ≤ (0 : Int); decide, by show (0 : Int) ≤ 100000000000 * 16 ^ 0; decide, Int.le_refl _, by show (1 : Int) ≤ 16 ^ 0; decide, c1, c2⟩
theorem PartOk.lg {y : Ef} (h : PartOk y) : EfLg y := ⟨Lg.small ⟨by have := h.l1; omega, by have := h.l2; omega⟩, Lg.small ⟨by have := h.a1; omega, by have := h.a2; omega⟩, Lg.small ⟨by have := h.b1; omega, by have := h.b2; omega⟩, Lg.small ⟨by have := h.t1; omega, by have := h.t2; omega⟩, h.b1⟩
theorem sncs_nn {p : Plan} {n : Int} (h : 0 ≤ n) (b : Bool) : 0 ≤ p.sncs n b := by
  unfold Plan.sncs
  cases b with
  | true => show 0 ≤ (if p.anew = true then 0 else n); split <;> omega
  | false => show 0 ≤ n + 1; omega
theorem eff_ok {p : Plan} (ok : p.Ok) : ∀ (l : List Bool) (k : Nat) (x y : Ef) (n : Int), EfOk k x → p.eff x n l = some y → EfOk (k + l.length) y
  | [], k, x, y, n, h, e => by cases e; exact h
  | b :: r, k, x, y, n, h, e => by
    rw [eff_cons] at e
    unfold Plan.stepE at e
    cases hp : p.part n b with
    | none => rw [hp] at e; cases e
    | some q =>
      rw [hp] at e
      cases hj : joinE x q with
      | none =>
        have e' : (joinE x q).bind _ = some y := e
        rw [hj] at e'
        cases e'
      | some z =>
        have e' : ((joinE x q).bind fun y => p.eff y (p.sncs n b) r) = some y := e
        rw [hj] at e'
        have := eff_ok ok r (k + 1) z y _ (join_ok h (part_ok ok hp) hj) e'
        rw [List.length_cons, show k + (r.length + 1) = k + 1 + r.length by omega]
        exact this
section
variable {C : Ctx} {δ : List Sl} {K : PySem.W.Frag} {Φ : D → Prop} {x : Ef} {e : Option Ef}
theorem rd_e0 (q : Φ (.int x.least)) : RD K (rIx K) (efD x) (.int 0) Φ := rd_ixT rfl q
theorem rd_e1 (q : Φ (.int x.add)) : RD K (rIx K) (efD x) (.int 1) Φ := rd_ixT rfl q
theorem rd_e2 (q : Φ (.int x.by_)) : RD K (rIx K) (efD x) (.int 2) Φ := rd_ixT rfl q
theorem rd_isNe (q : Φ (.bl false)) : RD K rIsNone (efD x) .non Φ := rd_isN q
theorem rd_notNe (q : Φ (.bl true)) : RD K rNotNone (efD x) .non Φ := rd_notN q
theorem rd_isNn (q : Φ (.bl true)) : RD K rIsNone .non .non Φ := rd_isN q
theorem rd_notNn (q : Φ (.bl false)) : RD K rNotNone .non .non Φ := rd_notN q
theorem rd_e3 (q : Φ (.int x.top)) : RD K (rIx K) (efD x) (.int 3) Φ := rd_ixT rfl q
end
local macro_rules | `(tactic| o_shape) => `(tactic| first | assumption | rfl | trivial | omega | decide)
local macro_rules | `(tactic| o_reads) => `(tactic| first | fail "no rule" | fail)
local macro_rules | `(tactic| o_reads) => `(tactic| first | (apply Exists.intro; (repeat apply Exists.intro); exact rfl) | fail)
local macro_rules | `(tactic| o_reads) => `(tactic| first | refine And.intro (by omega) ?_ | fail)
local macro_rules | `(tactic| o_reads) => `(tactic| first | refine And.intro (by assumption) ?_ | fail)
local macro_rules | `(tactic| o_reads) => `(tactic| first | refine And.intro (by assumption : Plan.Ok _) ?_ | fail)
local macro_rules | `(tactic| o_reads) => `(tactic| first | refine ⟨by exact Nat.le_of_ble_eq_true rfl, ?_⟩ | fail)
local macro_rules | `(tactic| o_reads) => `(tactic| first | refine ⟨rfl, ?_⟩ | fail)
local macro_rules | `(tactic| o_reads) => `(tactic| first | refine ⟨_, _, _, _, rfl, ?_⟩ | fail)
local macro_rules | `(tactic| o_reads) => `(tactic| first | refine ⟨_, _, _, rfl, ?_⟩ | fail)
local macro_rules | `(tactic| o_reads) => `(tactic| first | refine ⟨_, _, rfl, ?_⟩ | fail)
local macro_rules | `(tactic| o_reads) => `(tactic| first | refine ⟨_, rfl, ?_⟩ | fail)
local macro_rules | `(tactic| o_reads) => `(tactic| first | refine And.intro (And.intro (by first | decide | omega) (by first | decide | omega)) ?_ | fail)
local macro_rules | `(tactic| o_reads) => `(tactic| first | with_reducible refine eo_part ?_ | fail)
local macro_rules | `(tactic| o_reads) => `(tactic| first | with_reducible refine eo_none ?_ | fail)
local macro_rules | `(tactic| o_reads) => `(tactic| first | (((with_reducible apply rd_atM); (first | assumption | omega)); assumption) | fail)
local macro_rules | `(tactic| o_reads) => `(tactic| first | refine ⟨fit_step (coming_ok (by assumption) _), ?_⟩ | fail)
local macro_rules | `(tactic| o_reads) => `(tactic| first | refine ⟨fit_int ⟨by omega, by omega⟩, ?_⟩ | fail)
local macro_rules | `(tactic| o_reads) => `(tactic| first | ((with_reducible refine rc_isW ?_ ?_); assumption) | fail)
local macro_rules | `(tactic| o_reads) => `(tactic| first | with_reducible refine ev_adr ?_ | fail)
local macro_rules | `(tactic| o_reads) => `(tactic| first | with_reducible exact rfl | fail)
local macro_rules | `(tactic| o_reads) => `(tactic| first | exact dn_t (by omega) | fail)
local macro_rules | `(tactic| o_reads) => `(tactic| first | exact dn_f (by omega) | fail)
local macro_rules | `(tactic| o_reads) => `(tactic| first | exact decide_eq_true (by omega) | fail)
local macro_rules | `(tactic| o_reads) => `(tactic| first | exact decide_eq_false (by omega) | fail)
local macro_rules | `(tactic| o_reads) => `(tactic| first | exact (rfl : (!true) = false) | fail)
local macro_rules | `(tactic| o_reads) => `(tactic| first | refine sprn (fun z => ?_) (fun z => ?_) | fail)
local macro_rules | `(tactic| o_reads) => `(tactic| first | refine spln (fun z => ?_) (fun z => ?_) | fail)
local macro_rules | `(tactic| o_reads) => `(tactic| first | refine spr (fun z => ?_) (fun z => ?_) | fail)
local macro_rules | `(tactic| o_reads) => `(tactic| first | refine spl (fun z => ?_) (fun z => ?_) | fail)
local macro_rules | `(tactic| o_reads) => `(tactic| first | with_reducible refine spNF ?_ | fail)
local macro_rules | `(tactic| o_reads) => `(tactic| first | with_reducible refine spNT ?_ | fail)
local macro_rules | `(tactic| o_reads) => `(tactic| first | refine sprn (fun _ => ?_) (fun z => absurd z (by omega)) | fail)
local macro_rules | `(tactic| o_reads) => `(tactic| first | refine sprn (fun z => absurd z (by omega)) (fun _ => ?_) | fail)
local macro_rules | `(tactic| o_reads) => `(tactic| first | refine spln (fun _ => ?_) (fun z => absurd z (by omega)) | fail)
local macro_rules | `(tactic| o_reads) => `(tactic| first | refine spln (fun z => absurd z (by omega)) (fun _ => ?_) | fail)
local macro_rules | `(tactic| o_reads) => `(tactic| first | refine spr (fun _ => ?_) (fun z => absurd z (by omega)) | fail)
local macro_rules | `(tactic| o_reads) => `(tactic| first | refine spr (fun z => absurd z (by omega)) (fun _ => ?_) | fail)
local macro_rules | `(tactic| o_reads) => `(tactic| first | refine spl (fun _ => ?_) (fun z => absurd z (by omega)) | fail)
local macro_rules | `(tactic| o_reads) => `(tactic| first | refine spl (fun z => absurd z (by omega)) (fun _ => ?_) | fail)
local macro_rules | `(tactic| o_reads) => `(tactic| first | with_reducible refine sprf ?_ | fail)
local macro_rules | `(tactic| o_reads) => `(tactic| first | with_reducible refine sprt ?_ | fail)
local macro_rules | `(tactic| o_reads) => `(tactic| first | with_reducible refine spff ?_ | fail)
local macro_rules | `(tactic| o_reads) => `(tactic| first | with_reducible refine sptt ?_ | fail)
local macro_rules | `(tactic| o_reads) => `(tactic| first | ((with_reducible refine ev_wm rfl ?_ ?_); decide +kernel) | fail)
local macro_rules | `(tactic| o_reads) => `(tactic| first | ((with_reducible refine ev_anew ?_ ?_); assumption) | fail)
local macro_rules | `(tactic| o_reads) => `(tactic| first | ((with_reducible refine ev_up ?_ ?_); assumption) | fail)
local macro_rules | `(tactic| o_reads) => `(tactic| first | ((with_reducible refine ev_cap ?_ ?_); assumption) | fail)
local macro_rules | `(tactic| o_reads) => `(tactic| first | ((with_reducible refine ev_ts ?_ ?_); assumption) | fail)
local macro_rules | `(tactic| o_reads) => `(tactic| first | ((with_reducible refine ev_hs ?_ ?_); assumption) | fail)
local macro_rules | `(tactic| o_reads) => `(tactic| first | (((with_reducible apply ev_clB (hg := gAll) (hK := rfl)); assumption); assumption) | fail)
local macro_rules | `(tactic| o_reads) => `(tactic| first | (((with_reducible apply ev_tk rfl); assumption); assumption) | fail)
local macro_rules | `(tactic| o_reads) => `(tactic| first | with_reducible refine ev_cl Sub.pure gAll ?_ | fail)
local macro_rules | `(tactic| o_reads) => `(tactic| first | with_reducible refine ev_withinI rfl ?_ | fail)
local macro_rules | `(tactic| o_reads) => `(tactic| first | with_reducible refine ev_strengthI rfl ?_ | fail)
local macro_rules | `(tactic| o_reads) => `(tactic| first | with_reducible refine ev_sizeI rfl ?_ | fail)
local macro_rules | `(tactic| o_reads) => `(tactic| first | with_reducible refine ev_momentI rfl ?_ | fail)
local macro_rules | `(tactic| o_reads) => `(tactic| first | with_reducible refine ev_wholeI rfl ?_ | fail)
local macro_rules | `(tactic| o_reads) => `(tactic| first | with_reducible refine rd_asg ?_ | fail)
local macro_rules | `(tactic| o_reads) => `(tactic| first | with_reducible refine rd_dot ?_ | fail)
local macro_rules | `(tactic| o_reads) => `(tactic| first | with_reducible refine rc_lenRow (by omega) ?_ | fail)
local macro_rules | `(tactic| o_reads) => `(tactic| first | with_reducible refine ev_isrow rfl ?_ | fail)
local macro_rules | `(tactic| o_reads) => `(tactic| first | with_reducible refine ev_new (en_listRg ?_) | fail)
local macro_rules | `(tactic| o_reads) => `(tactic| first | with_reducible refine ev_new (en_rev rfl ?_) | fail)
local macro_rules | `(tactic| o_reads) => `(tactic| first | ((with_reducible refine rc_isS ?_ ?_); first | assumption | (simp [D.tyn]; done) | (apply plainD.ty; assumption)) | fail)
local macro_rules | `(tactic| o_reads) => `(tactic| first | ((with_reducible refine rc_isT ?_ ?_); first | assumption | (simp [D.tyn]; done) | (apply plainD.ty; assumption)) | fail)
local macro_rules | `(tactic| o_reads) => `(tactic| first | ((with_reducible refine rc_isL ?_ ?_); first | assumption | (simp [D.tyn]; done) | (apply plainD.ty; assumption)) | fail)
local macro_rules | `(tactic| o_reads) => `(tactic| first | ((with_reducible refine rc_isB ?_ ?_); first | assumption | (simp [D.tyn]; done) | (apply plainD.ty; assumption)) | fail)
local macro_rules | `(tactic| o_reads) => `(tactic| first | ((with_reducible refine rc_isI ?_ ?_); first | assumption | (simp [D.tyn]; done) | (apply plainD.ty; assumption)) | fail)
local macro_rules | `(tactic| o_reads) => `(tactic| first | with_reducible refine rc_intB ?_ | fail)
local macro_rules | `(tactic| o_reads) => `(tactic| first | with_reducible refine rc_intI ?_ | fail)
local macro_rules | `(tactic| o_reads) => `(tactic| first | with_reducible refine rc_min ?_ | fail)
local macro_rules | `(tactic| o_reads) => `(tactic| first | with_reducible refine rc_max ?_ | fail)
local macro_rules | `(tactic| o_reads) => `(tactic| first | with_reducible refine rc_abs ?_ | fail)
local macro_rules | `(tactic| o_reads) => `(tactic| first | with_reducible refine rc_lenT ?_ | fail)
local macro_rules | `(tactic| o_reads) => `(tactic| first | with_reducible refine rc_lenL ?_ | fail)
local macro_rules | `(tactic| o_reads) => `(tactic| first | with_reducible refine rc_lenD ?_ | fail)
local macro_rules | `(tactic| o_reads) => `(tactic| first | with_reducible refine rd_notN ?_ | fail)
local macro_rules | `(tactic| o_reads) => `(tactic| first | with_reducible refine rd_isN ?_ | fail)
local macro_rules | `(tactic| o_reads) => `(tactic| first | with_reducible refine rd_notNn ?_ | fail)
local macro_rules | `(tactic| o_reads) => `(tactic| first | with_reducible refine rd_isNn ?_ | fail)
local macro_rules | `(tactic| o_reads) => `(tactic| first | with_reducible refine rd_notNe ?_ | fail)
local macro_rules | `(tactic| o_reads) => `(tactic| first | with_reducible refine rd_isNe ?_ | fail)
local macro_rules | `(tactic| o_reads) => `(tactic| first | ((with_reducible apply rd_ixL); exact rfl) | fail)
local macro_rules | `(tactic| o_reads) => `(tactic| first | ((with_reducible apply rd_ixT); exact rfl) | fail)
local macro_rules | `(tactic| o_reads) => `(tactic| first | (((with_reducible refine rd_atD ?_ ?_ ?_); (first | assumption | omega)); (first | assumption | omega)) | fail)
local macro_rules | `(tactic| o_reads) => `(tactic| first | with_reducible refine rd_p4 ?_ | fail)
local macro_rules | `(tactic| o_reads) => `(tactic| first | with_reducible refine rd_p3 ?_ | fail)
local macro_rules | `(tactic| o_reads) => `(tactic| first | with_reducible refine rd_p2 ?_ | fail)
local macro_rules | `(tactic| o_reads) => `(tactic| first | with_reducible refine rd_p1 ?_ | fail)
local macro_rules | `(tactic| o_reads) => `(tactic| first | with_reducible refine rd_p0 ?_ | fail)
local macro_rules | `(tactic| o_reads) => `(tactic| first | ((with_reducible refine rd_neg1 ?_ ?_); assumption) | fail)
local macro_rules | `(tactic| o_reads) => `(tactic| first | with_reducible refine rd_s1 ?_ | fail)
local macro_rules | `(tactic| o_reads) => `(tactic| first | with_reducible refine rd_s0 ?_ | fail)
local macro_rules | `(tactic| o_reads) => `(tactic| first | with_reducible refine rd_negT ?_ | fail)
local macro_rules | `(tactic| o_reads) => `(tactic| first | with_reducible refine rd_e3 ?_ | fail)
local macro_rules | `(tactic| o_reads) => `(tactic| first | with_reducible refine rd_e2 ?_ | fail)
local macro_rules | `(tactic| o_reads) => `(tactic| first | with_reducible refine rd_e1 ?_ | fail)
local macro_rules | `(tactic| o_reads) => `(tactic| first | with_reducible refine rd_e0 ?_ | fail)
local macro_rules | `(tactic| o_reads) => `(tactic| first | with_reducible refine ru_neg ?_ | fail)
local macro_rules | `(tactic| o_reads) => `(tactic| first | (((with_reducible refine rd_pow ?_ ?_); exact ⟨by decide, by decide, by decide⟩); dsimp only [Int.reduceToNat]) | fail)
local macro_rules | `(tactic| o_reads) => `(tactic| first | with_reducible refine rd_mul ?_ ?_ | fail)
local macro_rules | `(tactic| o_reads) => `(tactic| first | (((with_reducible refine rd_mulL ?_ ?_ ?_); (first | assumption | exact EfLg.l (by assumption) | exact EfLg.a (by assumption) | exact EfLg.b (by assumption))); (first | assumption | exact EfLg.b (by assumption))) | fail)
local macro_rules | `(tactic| o_reads) => `(tactic| first | ((with_reducible refine rd_mul ?_ ?_); first | exact .inl ⟨by omega, by omega⟩ | exact .inr ⟨by omega, by omega⟩) | fail)
local macro_rules | `(tactic| o_reads) => `(tactic| first | with_reducible refine rd_div ?_ ?_ | fail)
local macro_rules | `(tactic| o_reads) => `(tactic| first | ((with_reducible refine rd_div ?_ ?_); exact ⟨by o_shape, by first | decide | (apply lg <;> omega)⟩) | fail)
local macro_rules | `(tactic| o_reads) => `(tactic| first | (((with_reducible refine rd_divL ?_ ?_ ?_); omega); (first | assumption | exact EfLg.b (by assumption))) | fail)
local macro_rules | `(tactic| o_reads) => `(tactic| first | with_reducible refine rd_mod ?_ ?_ | fail)
local macro_rules | `(tactic| o_reads) => `(tactic| first | ((with_reducible refine rd_mod ?_ ?_); o_shape) | fail)
local macro_rules | `(tactic| o_reads) => `(tactic| first | with_reducible refine rd_ge ?_ | fail)
local macro_rules | `(tactic| o_reads) => `(tactic| first | with_reducible refine rd_gt ?_ | fail)
local macro_rules | `(tactic| o_reads) => `(tactic| first | with_reducible refine rd_le ?_ | fail)
local macro_rules | `(tactic| o_reads) => `(tactic| first | with_reducible refine rd_lt ?_ | fail)
local macro_rules | `(tactic| o_reads) => `(tactic| first | with_reducible refine rd_neS ?_ | fail)
local macro_rules | `(tactic| o_reads) => `(tactic| first | with_reducible refine rd_neI2 ?_ | fail)
local macro_rules | `(tactic| o_reads) => `(tactic| first | with_reducible refine rd_eqS ?_ | fail)
local macro_rules | `(tactic| o_reads) => `(tactic| first | with_reducible refine rd_eqB ?_ | fail)
local macro_rules | `(tactic| o_reads) => `(tactic| first | with_reducible refine rd_eqI ?_ | fail)
local macro_rules | `(tactic| o_reads) => `(tactic| first | with_reducible refine rd_sub ?_ | fail)
local macro_rules | `(tactic| o_reads) => `(tactic| first | with_reducible refine rd_addI ?_ | fail)
local macro_rules | `(tactic| o_reads) => `(tactic| first | with_reducible refine g_tup rfl ?_ | fail)
local macro_rules | `(tactic| o_reads) => `(tactic| first | with_reducible refine gs_nil ?_ | fail)
local macro_rules | `(tactic| o_reads) => `(tactic| first | with_reducible refine gs_cons ?_ | fail)
local macro_rules | `(tactic| o_reads) => `(tactic| first | with_reducible refine g_name ?_ | fail)
local macro_rules | `(tactic| o_reads) => `(tactic| first | ((fail_if_success (with_reducible refine b_asgLst ?_)); (with_reducible refine b_asgG ?_)) | fail)
local macro_rules | `(tactic| o_reads) => `(tactic| first | ((with_reducible apply b_aug); exact rfl) | fail)
local macro_rules | `(tactic| o_reads) => `(tactic| first | with_reducible refine b_par ?_ | fail)
local macro_rules | `(tactic| o_reads) => `(tactic| first | with_reducible refine b_drop ?_ | fail)
local macro_rules | `(tactic| o_reads) => `(tactic| first | ((with_reducible apply b_ext rfl); exact rfl) | fail)
local macro_rules | `(tactic| o_reads) => `(tactic| first | ((with_reducible apply b_clr rfl); exact rfl) | fail)
local macro_rules | `(tactic| o_reads) => `(tactic| first | ((with_reducible apply b_rev rfl); exact rfl) | fail)
local macro_rules | `(tactic| o_reads) => `(tactic| first | ((with_reducible apply b_app rfl); exact rfl) | fail)
local macro_rules | `(tactic| o_reads) => `(tactic| first | with_reducible refine b_cont ?_ | fail)
local macro_rules | `(tactic| o_reads) => `(tactic| first | with_reducible refine b_brk ?_ | fail)
local macro_rules | `(tactic| o_reads) => `(tactic| first | with_reducible refine b_retN ?_ | fail)
local macro_rules | `(tactic| o_reads) => `(tactic| first | ((fail_if_success (with_reducible refine b_asgLst ?_)); (with_reducible refine b_asg ?_)) | fail)
local macro_rules | `(tactic| o_reads) => `(tactic| first | with_reducible refine b_next ?_ | fail)
local macro_rules | `(tactic| o_reads) => `(tactic| first | with_reducible refine b_ret ?_ | fail)
local macro_rules | `(tactic| o_reads) => `(tactic| first | with_reducible refine b_if ?_ | fail)
local macro_rules | `(tactic| o_reads) => `(tactic| first | with_reducible refine b_ifR ?_ ?_ | fail)
local macro_rules | `(tactic| o_reads) => `(tactic| first | with_reducible refine b_seq ?_ | fail)
local macro_rules | `(tactic| o_reads) => `(tactic| first | with_reducible refine ev_chain ?_ | fail)
local macro_rules | `(tactic| o_reads) => `(tactic| first | with_reducible refine ev_if ?_ | fail)
local macro_rules | `(tactic| o_reads) => `(tactic| first | with_reducible refine ev_notV ?_ | fail)
local macro_rules | `(tactic| o_reads) => `(tactic| first | with_reducible refine ev_orV ?_ | fail)
local macro_rules | `(tactic| o_reads) => `(tactic| first | with_reducible refine ev_andV ?_ | fail)
local macro_rules | `(tactic| o_reads) => `(tactic| first | with_reducible refine ev_lst ?_ | fail)
local macro_rules | `(tactic| o_reads) => `(tactic| first | with_reducible refine ev_tup ?_ | fail)
local macro_rules | `(tactic| o_reads) => `(tactic| first | with_reducible refine et_or ?_ | fail)
local macro_rules | `(tactic| o_reads) => `(tactic| first | with_reducible refine et_and ?_ | fail)
local macro_rules | `(tactic| o_reads) => `(tactic| first | with_reducible refine et_not ?_ | fail)
local macro_rules | `(tactic| o_reads) => `(tactic| first | with_reducible refine et_b ?_ | fail)
local macro_rules | `(tactic| o_reads) => `(tactic| first | with_reducible refine et_test ?_ | fail)
local macro_rules | `(tactic| o_reads) => `(tactic| first | with_reducible refine ev_cb ?_ | fail)
local macro_rules | `(tactic| o_reads) => `(tactic| first | with_reducible refine ev_un ?_ | fail)
local macro_rules | `(tactic| o_reads) => `(tactic| first | with_reducible refine ev_op ?_ | fail)
local macro_rules | `(tactic| o_reads) => `(tactic| first | ((with_reducible apply ev_lenO rfl); exact rfl) | fail)
local macro_rules | `(tactic| o_reads) => `(tactic| first | ((with_reducible apply ev_ixO rfl); exact rfl) | fail)
local macro_rules | `(tactic| o_reads) => `(tactic| first | with_reducible refine ea_cons ?_ | fail)
local macro_rules | `(tactic| o_reads) => `(tactic| first | with_reducible refine ea_nil ?_ | fail)
local macro_rules | `(tactic| o_reads) => `(tactic| first | with_reducible refine ev_ty ?_ | fail)
local macro_rules | `(tactic| o_reads) => `(tactic| first | with_reducible refine ev_non ?_ | fail)
local macro_rules | `(tactic| o_reads) => `(tactic| first | with_reducible refine ev_bl ?_ | fail)
local macro_rules | `(tactic| o_reads) => `(tactic| first | with_reducible refine ev_str ?_ | fail)
local macro_rules | `(tactic| o_reads) => `(tactic| first | with_reducible refine ev_int ?_ | fail)
local macro_rules | `(tactic| o_reads) => `(tactic| first | ((with_reducible apply ev_var); exact rfl) | fail)
local macro_rules | `(tactic| o_readsAll) => `(tactic| repeat' o_reads)
/-! ### contracts -/
def F_turn_effect (_ : PySem.W.Frag) : FSpec := fun ds Φ _ => ∃ (s : Int × Int) (c : Int), ds = [stepD s, .int c] ∧ (StepOk s ∧ 0 ≤ c ∧ c ≤ 10 ^ 9) ∧ Φ (efO (turnE s c))
def F_join_two (_ : PySem.W.Frag) : FSpec := fun ds Φ _ => ∃ (x y : Ef), ds = [efD x, efD y] ∧ (EfLg x ∧ EfLg y) ∧ Φ (efO (joinE x y))
def F_row_effect (K : PySem.W.Frag) : FSpec := fun ds Φ _ => ∃ (p : Plan) (l : List Bool) (n : Int), ds = [waneD K p, rowD l, .int n] ∧ (p.Ok ∧ 0 ≤ n ∧ l.length ≤ 1500) ∧ Φ (efO (p.eff (oneE p) n l))
def F_effect_of (K : PySem.W.Frag) : FSpec := fun ds Φ _ => ∃ (p : Plan) (l : List Bool) (n : Int), ds = [waneD K p, rowD l, .int n] ∧ (p.Ok ∧ 0 ≤ n ∧ n ≤ 10 ^ 30 ∧ l.length ≤ 200) ∧ Φ (efO (p.eff (oneE p) n l))
def F_through (_ : PySem.W.Frag) : FSpec := fun ds Φ _ => ∃ (e : Option Ef) (s : Int), ds = [efO e, .int s] ∧ (∀ x, e = some x → EfLg x) ∧ Φ (.int (thr e s))
def t_turn_effect (K : PySem.W.Frag) (E : XK) : TS :=
    (tSeq (tAsg (tVar 0) (gTup K 2 (gCons (gName 2) (gCons (gName 3) gNil))))
    (tSeq (tAsg (tOp rSubU (tOp rDivU (tVar 1) (tVar 2)) (tVar 3)) (gName 4))
    (tSeq (tIfS (tTest (tOp rLtU (tVar 4) (tC (.int 1))))
     (tRet (tC .non))
     tNext)
    (tRet (tTup (tCons (tOp rMulU (tVar 2) (tOp (rAddU K) (tVar 3) (tC (.int 1)))) (tCons (tUn rNegU (tOp rMulU (tVar 2) (tVar 3))) (tCons (tVar 2) (tCons (tVar 4) tNil)))))))))

def t_join_two (K : PySem.W.Frag) (E : XK) : TS :=
    (tSeq (tAsg (tVar 0) (gTup K 4 (gCons (gName 2) (gCons (gName 3) (gCons (gName 4) (gCons (gName 5) gNil))))))
    (tSeq (tAsg (tVar 1) (gTup K 4 (gCons (gName 6) (gCons (gName 7) (gCons (gName 8) (gCons (gName 9) gNil))))))
    (tSeq (tIfS (tTest (tOp rLtU (tVar 5) (tVar 6)))
     (tRet (tC .non))
     tNext)
    (tSeq (tAsg (tCB (rMaxU K) (tCons (tVar 2) (tCons (tOp rSubU (tOp rMulU (tVar 6) (tVar 4)) (tVar 3)) tNil))) (gName 2))
    (tRet (tTup (tCons (tVar 2) (tCons (tOp (rAddU K) (tVar 3) (tOp rMulU (tVar 7) (tVar 4))) (tCons (tOp rMulU (tVar 4) (tVar 8)) (tCons (tCB (rMinU K) (tCons (tVar 9) (tCons (tOp rDivU (tOp (rAddU K) (tVar 5) (tVar 7)) (tVar 8)) tNil))) tNil))))))))))

def t_row_effect (K : PySem.W.Frag) (E : XK) : TS :=
    (tSeq (tAsg (tMt (He.ga K "Wane") "cap" 0 (lift K pureM (F_Wane_cap K)) gvAll E (tVar 0) tNil) (gName 3))
    (tSeq (tAsg (tTup (tCons (tC (.int 1)) (tCons (tMt (He.ga K "Wane") "lift" 0 (lift K pureM (F_Wane_lift K)) gvAll E (tVar 0) tNil) (tCons (tC (.int 1)) (tCons (tVar 3) tNil))))) (gName 4))
    (tSeq (tAsg (tTup (tCons (tC (.int 1)) (tCons (tC (.int 0)) (tCons (tC (.int 1)) (tCons (tVar 3) tNil))))) (gName 5))
    (tSeq (tFor (iU K (tVar 1)) (gName 6)
     (tSeq (tIfS (tTest (tOp (rEqU K) (tVar 6) (tC (.str "a"))))
       (tSeq (tAsg (tVar 4) (gName 7))
        (tIfS (tB (tMt (He.ga K "Wane") "is_anew" 0 (lift K pureM (F_Wane_is_anew K)) gvAll E (tVar 0) tNil))
         (tAsg (tC (.int 0)) (gName 2))
         tNext))
       (tSeq (tAsg (tCl 2 0 (lift K pureM (F_turn_effect K)) gvAll E (tCons (tMt (He.ga K "Wane") "coming" 1 (lift K pureM (F_Wane_coming K)) gvAll E (tVar 0) (tCons (tVar 2) tNil)) (tCons (tVar 3) tNil)) tNil) (gName 7))
        (tAug 2 (tC (.int 1)) (ipI fun i j => i + j))))
      (tSeq (tIfS (tTest (tOp rNotNone (tVar 7) (tC .non)))
       (tAsg (tCl 2 0 (lift K pureM (F_join_two K)) gvAll E (tCons (tVar 5) (tCons (tVar 7) tNil)) tNil) (gName 7))
       tNext)
      (tSeq (tIfS (tTest (tOp rIsNone (tVar 7) (tC .non)))
       (tRet (tC .non))
       tNext)
      (tAsg (tVar 7) (gName 5))))))
    (tRet (tVar 5))))))

def t_effect_of (K : PySem.W.Frag) (E : XK) : TS :=
    (tSeq (tIfS (tNot (tB (tCB (rIsi K) (tCons (tVar 0) (tCons (tC (.ref (He.ga K "Wane"))) tNil)))))
     tNever
     tNext)
    (tSeq (tIfS (tNot (tB (tCl 1 0 (lift K pureM (F_is_row K)) gvAll E (tCons (tVar 1) tNil) tNil)))
     tNever
     tNext)
    (tSeq (tIfS (tNot (tB (tCl 1 0 (lift K pureM (F_is_moment K)) gvAll E (tCons (tVar 2) tNil) tNil)))
     tNever
     tNext)
    (tRet (tCl 3 0 (lift K pureM (F_row_effect K)) gvAll E (tCons (tVar 0) (tCons (tVar 1) (tCons (tVar 2) tNil))) tNil)))))

def t_through (K : PySem.W.Frag) (E : XK) : TS :=
    (tSeq (tIfS (tOr (tTest (tOp rIsNone (tVar 0) (tC .non))) (tTest (tOp rLtU (tVar 1) (tOp (rIx K) (tVar 0) (tC (.int 0))))))
     (tRet (tC (.int 0)))
     tNext)
    (tSeq (tAsg (tVar 0) (gTup K 4 (gCons (gName 2) (gCons (gName 3) (gCons (gName 4) (gCons (gName 5) gNil))))))
    (tRet (tCB (rMinU K) (tCons (tVar 5) (tCons (tOp rDivU (tOp (rAddU K) (tVar 1) (tVar 3)) (tVar 4)) tNil))))))

theorem pure_turn_effect {K : PySem.W.Frag} {vs : List V} {H : Hp} {Q : VK} {E : XK} (h : lift K pureM (F_turn_effect K) vs H Q E) : t_turn_effect K E { nx := fun _ H' => Q .non H', rt := Q } (L2.start ["step", "cap", "by", "take", "top"] vs) H :=
  lift_of (t := t_turn_effect K) (fun C ds Φ hK hm hE hn ⟨s, c, e, ⟨⟨s1, s2, s3, s4⟩, h1, h2⟩, q⟩ => by
    subst hK hE e
    unfold t_turn_effect
    unfold turnE at q
    refine b_seq (b_asgG (ev_var rfl (g_tup rfl ⟨_, rfl, rfl, ?_⟩)))
    o_readsAll
    · rename_i z
      rw [if_pos z] at q
      exact q
    · rename_i z
      rw [if_neg z] at q
      o_readsAll
      exact q) h
theorem pure_join_two {K : PySem.W.Frag} {vs : List V} {H : Hp} {Q : VK} {E : XK} (h : lift K pureM (F_join_two K) vs H Q E) : t_join_two K E { nx := fun _ H' => Q .non H', rt := Q } (L2.start ["one", "other", "least", "add", "by", "top", "least_then", "add_then", "by_then", "top_then"] vs) H :=
  lift_of (t := t_join_two K) (fun C ds Φ hK hm hE hn ⟨x, y, e, ⟨hx, hy⟩, q⟩ => by
    subst hK hE e
    unfold t_join_two
    unfold joinE at q
    have hp := hy.p
    refine b_seq (b_asgG (ev_var rfl (g_tup rfl ⟨_, rfl, rfl, ?_⟩)))
    o_readsAll
    · rename_i z
      rw [if_pos z] at q
      exact q
    · rename_i z
      rw [if_neg z] at q
      exact q) h
theorem pure_through {K : PySem.W.Frag} {vs : List V} {H : Hp} {Q : VK} {E : XK} (h : lift K pureM (F_through K) vs H Q E) : t_through K E { nx := fun _ H' => Q .non H', rt := Q } (L2.start ["effect", "strength", "least", "add", "by", "top"] vs) H :=
  lift_of (t := t_through K) (fun C ds Φ hK hm hE hn ⟨e, s, ed, hl, q⟩ => by
    subst hK hE ed
    unfold t_through
    cases e with
    | none =>
      refine b_seq (b_if (et_or (et_test (ev_op (ev_var rfl (ev_non (rd_isN ⟨_, rfl, fun z => (by cases z), fun _ => ⟨fun _ => b_ret (ev_int q), fun z => (by cases z)⟩⟩)))))))
    | some x =>
      have hx := hl x rfl
      have hp := hx.p
      refine b_seq (b_if (et_or (et_test (ev_op (ev_var rfl (ev_non (rd_isN ⟨_, rfl, fun _ => ?_, fun z => (by cases z)⟩)))))))
      have q' : Φ (.int (if s < x.least then 0 else min x.top ((s + x.add) / x.by_))) := q
      refine et_test (ev_op (ev_var rfl (ev_op (ev_var (x := efD x) rfl (ev_int (rd_e0 (rd_lt ⟨_, rfl, ?_⟩)))))))
      refine spl (fun z => b_ret (ev_int ?_)) (fun z => b_next ?_)
      · rw [if_pos z] at q'
        exact q'
      · rw [if_neg z] at q'
        refine b_seq (b_asgG (ev_var (x := efD x) rfl (g_tup rfl ⟨_, rfl, rfl, ?_⟩)))
        o_readsAll
        exact q') h
theorem pure_row_effect {K : PySem.W.Frag} {vs : List V} {H : Hp} {Q : VK} {E : XK} (h : lift K pureM (F_row_effect K) vs H Q E) : t_row_effect K E { nx := fun _ H' => Q .non H', rt := Q } (L2.start ["wane", "row", "since", "cap", "asking", "found", "sign", "part"] vs) H :=
  lift_of (t := t_row_effect K) (fun C ds Φ hK hm hE hn ⟨p, l, n, e, ⟨ok, h1, h2⟩, q⟩ => by
    subst hK hE e
    unfold t_row_effect
    have c1 := ok.c1
    have c2 := ok.c2
    o_readsAll
    refine b_forRow (l := l) (fun k δ => ∃ (x : Ef) (n' : Int) (x6 x7 : Sl), δ = [.d (waneD C.K p), .d (rowD l), .d (.int n'), .d (.int p.cap), .d (efD (askE p)), .d (efD x), x6, x7] ∧ p.eff x n' (l.drop k) = p.eff (oneE p) n l ∧ EfOk k x ∧ 0 ≤ n') (ev_var rfl rfl) ⟨oneE p, n, _, _, rfl, rfl, one_ok ok, h1⟩ ?_ ?_
    · rintro k b δ hb ⟨x, n', x6, x7, rfl, he, hx, hn'⟩
      have hk := lt_of_some hb
      rw [drop_cons hb, eff_cons] at he
      have hxl := hx.lg (by omega)
      refine g_name ?_
      refine b_seqW (fun δ => δ = [.d (waneD C.K p), .d (rowD l), .d (.int (p.sncs n' b)), .d (.int p.cap), .d (efD (askE p)), .d (efD x), .d (sgD b), .d (efO (p.part n' b))]) ?_ ?_
      · cases b with
        | true =>
          refine b_ifT (et_test (ev_op (ev_var rfl (ev_str (rd_asg ⟨_, rfl, rfl, ?_⟩)))))
          o_readsAll
          cases ha : p.anew with
          | true =>
            refine ⟨fun _ => ?_, fun z => (by cases z)⟩
            o_readsAll
            show _ = [_, _, Sl.d (.int (if p.anew then 0 else n')), _, _, _, _, _]
            rw [ha]
            rfl
          | false =>
            refine ⟨fun z => (by cases z), fun _ => ?_⟩
            o_readsAll
            show _ = [_, _, Sl.d (.int (if p.anew then 0 else n')), _, _, _, _, _]
            rw [ha]
            rfl
        | false =>
          have so := coming_ok ok n'
          refine b_ifF (et_test (ev_op (ev_var rfl (ev_str (rd_asg ⟨_, rfl, rfl, ?_⟩)))))
          o_readsAll
          exact rfl
      · rintro δ rfl
        cases hpt : p.part n' b with
        | none =>
          have he' : p.eff (oneE p) n l = none := by
            rw [← he]
            unfold Plan.stepE
            rw [hpt]
            rfl
          rw [he'] at q
          o_readsAll
          refine spff ?_
          o_readsAll
          refine sptt ?_
          o_readsAll
          exact q
        | some y =>
          have hy := part_ok ok hpt
          have hyl := hy.lg
          have hs : p.stepE x n' b = joinE x y := by
            unfold Plan.stepE
            rw [hpt]
            rfl
          rw [hs] at he
          o_readsAll
          refine sptt ?_
          o_readsAll
          cases hj : joinE x y with
          | none =>
            rw [hj] at he
            rw [← he] at q
            refine sptt ?_
            o_readsAll
            exact q
          | some z =>
            rw [hj] at he
            refine spff ?_
            o_readsAll
            exact ⟨join_ok hx hy hj, sncs_nn hn' b⟩
    · rintro δ ⟨x, n', x6, x7, rfl, he, hx, hn'⟩
      rw [List.drop_length] at he
      rw [← he] at q
      exact b_ret (ev_var rfl q)) h
theorem pure_effect_of {K : PySem.W.Frag} (I : Isi K (He.ga K "Wane")) {vs : List V} {H : Hp} {Q : VK} {E : XK} (h : lift K pureM (F_effect_of K) vs H Q E) : t_effect_of K E { nx := fun _ H' => Q .non H', rt := Q } (L2.start ["wane", "row", "since"] vs) H :=
  lift_of (t := t_effect_of K) (fun C ds Φ hK hm hE hn ⟨p, l, n, e, ⟨ok, h1, h2, h3⟩, q⟩ => by
    subst hK hE e
    unfold t_effect_of
    o_readsAll
    exact q) h
end Wn
end

section
/-! What an effect tells of the row. -/
namespace Wn
open PySem PySem.Spec PyProof.Rows L2
local macro_rules | `(tactic| o_shape) => `(tactic| first | assumption | rfl | trivial | omega | decide)
local macro_rules | `(tactic| o_reads) => `(tactic| first | fail "no rule" | fail)
local macro_rules | `(tactic| o_reads) => `(tactic| first | (apply Exists.intro; (repeat apply Exists.intro); exact rfl) | fail)
local macro_rules | `(tactic| o_reads) => `(tactic| first | refine And.intro (by omega) ?_ | fail)
local macro_rules | `(tactic| o_reads) => `(tactic| first | refine And.intro (by assumption) ?_ | fail)
local macro_rules | `(tactic| o_reads) => `(tactic| first | refine And.intro (by assumption : Plan.Ok _) ?_ | fail)
local macro_rules | `(tactic| o_reads) => `(tactic| first | refine ⟨by exact Nat.le_of_ble_eq_true rfl, ?_⟩ | fail)
local macro_rules | `(tactic| o_reads) => `(tactic| first | refine ⟨rfl, ?_⟩ | fail)
local macro_rules | `(tactic| o_reads) => `(tactic| first | refine ⟨_, _, _, _, rfl, ?_⟩ | fail)
local macro_rules | `(tactic| o_reads) => `(tactic| first | refine ⟨_, _, _, rfl, ?_⟩ | fail)
local macro_rules | `(tactic| o_reads) => `(tactic| first | refine ⟨_, _, rfl, ?_⟩ | fail)
local macro_rules | `(tactic| o_reads) => `(tactic| first | refine ⟨_, rfl, ?_⟩ | fail)
local macro_rules | `(tactic| o_reads) => `(tactic| first | refine And.intro (And.intro (by first | decide | omega) (by first | decide | omega)) ?_ | fail)
local macro_rules | `(tactic| o_reads) => `(tactic| first | with_reducible refine eo_part ?_ | fail)
local macro_rules | `(tactic| o_reads) => `(tactic| first | with_reducible refine eo_none ?_ | fail)
local macro_rules | `(tactic| o_reads) => `(tactic| first | (((with_reducible apply rd_atM); (first | assumption | omega)); assumption) | fail)
local macro_rules | `(tactic| o_reads) => `(tactic| first | refine ⟨fit_step (coming_ok (by assumption) _), ?_⟩ | fail)
local macro_rules | `(tactic| o_reads) => `(tactic| first | refine ⟨fit_int ⟨by omega, by omega⟩, ?_⟩ | fail)
local macro_rules | `(tactic| o_reads) => `(tactic| first | ((with_reducible refine rc_isW ?_ ?_); assumption) | fail)
local macro_rules | `(tactic| o_reads) => `(tactic| first | with_reducible refine ev_adr ?_ | fail)
local macro_rules | `(tactic| o_reads) => `(tactic| first | with_reducible exact rfl | fail)
local macro_rules | `(tactic| o_reads) => `(tactic| first | exact dn_t (by omega) | fail)
local macro_rules | `(tactic| o_reads) => `(tactic| first | exact dn_f (by omega) | fail)
local macro_rules | `(tactic| o_reads) => `(tactic| first | exact decide_eq_true (by omega) | fail)
local macro_rules | `(tactic| o_reads) => `(tactic| first | exact decide_eq_false (by omega) | fail)
local macro_rules | `(tactic| o_reads) => `(tactic| first | exact (rfl : (!true) = false) | fail)
local macro_rules | `(tactic| o_reads) => `(tactic| first | refine sprn (fun z => ?_) (fun z => ?_) | fail)
local macro_rules | `(tactic| o_reads) => `(tactic| first | refine spln (fun z => ?_) (fun z => ?_) | fail)
local macro_rules | `(tactic| o_reads) => `(tactic| first | refine spr (fun z => ?_) (fun z => ?_) | fail)
local macro_rules | `(tactic| o_reads) => `(tactic| first | refine spl (fun z => ?_) (fun z => ?_) | fail)
local macro_rules | `(tactic| o_reads) => `(tactic| first | with_reducible refine sqNF ?_ | fail)
local macro_rules | `(tactic| o_reads) => `(tactic| first | with_reducible refine sqNT ?_ | fail)
local macro_rules | `(tactic| o_reads) => `(tactic| first | with_reducible refine spNF ?_ | fail)
local macro_rules | `(tactic| o_reads) => `(tactic| first | with_reducible refine spNT ?_ | fail)
local macro_rules | `(tactic| o_reads) => `(tactic| first | refine sprn (fun _ => ?_) (fun z => absurd z (by omega)) | fail)
local macro_rules | `(tactic| o_reads) => `(tactic| first | refine sprn (fun z => absurd z (by omega)) (fun _ => ?_) | fail)
local macro_rules | `(tactic| o_reads) => `(tactic| first | refine spln (fun _ => ?_) (fun z => absurd z (by omega)) | fail)
local macro_rules | `(tactic| o_reads) => `(tactic| first | refine spln (fun z => absurd z (by omega)) (fun _ => ?_) | fail)
local macro_rules | `(tactic| o_reads) => `(tactic| first | refine spr (fun _ => ?_) (fun z => absurd z (by omega)) | fail)
local macro_rules | `(tactic| o_reads) => `(tactic| first | refine spr (fun z => absurd z (by omega)) (fun _ => ?_) | fail)
local macro_rules | `(tactic| o_reads) => `(tactic| first | refine spl (fun _ => ?_) (fun z => absurd z (by omega)) | fail)
local macro_rules | `(tactic| o_reads) => `(tactic| first | refine spl (fun z => absurd z (by omega)) (fun _ => ?_) | fail)
local macro_rules | `(tactic| o_reads) => `(tactic| first | with_reducible refine sprf ?_ | fail)
local macro_rules | `(tactic| o_reads) => `(tactic| first | with_reducible refine sprt ?_ | fail)
local macro_rules | `(tactic| o_reads) => `(tactic| first | with_reducible refine spff ?_ | fail)
local macro_rules | `(tactic| o_reads) => `(tactic| first | with_reducible refine sptt ?_ | fail)
local macro_rules | `(tactic| o_reads) => `(tactic| first | ((with_reducible refine ev_wm rfl ?_ ?_); decide +kernel) | fail)
local macro_rules | `(tactic| o_reads) => `(tactic| first | ((with_reducible refine ev_anew ?_ ?_); assumption) | fail)
local macro_rules | `(tactic| o_reads) => `(tactic| first | ((with_reducible refine ev_up ?_ ?_); assumption) | fail)
local macro_rules | `(tactic| o_reads) => `(tactic| first | ((with_reducible refine ev_cap ?_ ?_); assumption) | fail)
local macro_rules | `(tactic| o_reads) => `(tactic| first | ((with_reducible refine ev_ts ?_ ?_); assumption) | fail)
local macro_rules | `(tactic| o_reads) => `(tactic| first | ((with_reducible refine ev_hs ?_ ?_); assumption) | fail)
local macro_rules | `(tactic| o_reads) => `(tactic| first | (((with_reducible apply ev_clB (hg := gAll) (hK := rfl)); assumption); assumption) | fail)
local macro_rules | `(tactic| o_reads) => `(tactic| first | (((with_reducible apply ev_tk rfl); assumption); assumption) | fail)
local macro_rules | `(tactic| o_reads) => `(tactic| first | with_reducible refine ev_cl Sub.pure gAll ?_ | fail)
local macro_rules | `(tactic| o_reads) => `(tactic| first | with_reducible refine ev_withinI rfl ?_ | fail)
local macro_rules | `(tactic| o_reads) => `(tactic| first | with_reducible refine ev_strengthI rfl ?_ | fail)
local macro_rules | `(tactic| o_reads) => `(tactic| first | with_reducible refine ev_sizeI rfl ?_ | fail)
local macro_rules | `(tactic| o_reads) => `(tactic| first | with_reducible refine ev_momentI rfl ?_ | fail)
local macro_rules | `(tactic| o_reads) => `(tactic| first | with_reducible refine ev_wholeI rfl ?_ | fail)
local macro_rules | `(tactic| o_reads) => `(tactic| first | with_reducible refine rd_asg ?_ | fail)
local macro_rules | `(tactic| o_reads) => `(tactic| first | with_reducible refine rd_dot ?_ | fail)
local macro_rules | `(tactic| o_reads) => `(tactic| first | with_reducible refine rc_lenRow (by omega) ?_ | fail)
local macro_rules | `(tactic| o_reads) => `(tactic| first | with_reducible refine ev_isrow rfl ?_ | fail)
local macro_rules | `(tactic| o_reads) => `(tactic| first | with_reducible refine ev_new (en_listRg ?_) | fail)
local macro_rules | `(tactic| o_reads) => `(tactic| first | with_reducible refine ev_new (en_rev rfl ?_) | fail)
local macro_rules | `(tactic| o_reads) => `(tactic| first | ((with_reducible refine rc_isS ?_ ?_); first | assumption | (simp [D.tyn]; done) | (apply plainD.ty; assumption)) | fail)
local macro_rules | `(tactic| o_reads) => `(tactic| first | ((with_reducible refine rc_isT ?_ ?_); first | assumption | (simp [D.tyn]; done) | (apply plainD.ty; assumption)) | fail)
local macro_rules | `(tactic| o_reads) => `(tactic| first | ((with_reducible refine rc_isL ?_ ?_); first | assumption | (simp [D.tyn]; done) | (apply plainD.ty; assumption)) | fail)
local macro_rules | `(tactic| o_reads) => `(tactic| first | ((with_reducible refine rc_isB ?_ ?_); first | assumption | (simp [D.tyn]; done) | (apply plainD.ty; assumption)) | fail)
local macro_rules | `(tactic| o_reads) => `(tactic| first | ((with_reducible refine rc_isI ?_ ?_); first | assumption | (simp [D.tyn]; done) | (apply plainD.ty; assumption)) | fail)
local macro_rules | `(tactic| o_reads) => `(tactic| first | with_reducible refine rc_intB ?_ | fail)
local macro_rules | `(tactic| o_reads) => `(tactic| first | with_reducible refine rc_intI ?_ | fail)
local macro_rules | `(tactic| o_reads) => `(tactic| first | with_reducible refine rc_min ?_ | fail)
local macro_rules | `(tactic| o_reads) => `(tactic| first | with_reducible refine rc_max ?_ | fail)
local macro_rules | `(tactic| o_reads) => `(tactic| first | with_reducible refine rc_abs ?_ | fail)
local macro_rules | `(tactic| o_reads) => `(tactic| first | with_reducible refine rc_lenT ?_ | fail)
local macro_rules | `(tactic| o_reads) => `(tactic| first | with_reducible refine rc_lenL ?_ | fail)
local macro_rules | `(tactic| o_reads) => `(tactic| first | with_reducible refine rc_lenD ?_ | fail)
local macro_rules | `(tactic| o_reads) => `(tactic| first | with_reducible refine rd_notN ?_ | fail)
local macro_rules | `(tactic| o_reads) => `(tactic| first | with_reducible refine rd_isN ?_ | fail)
local macro_rules | `(tactic| o_reads) => `(tactic| first | with_reducible refine rd_notNn ?_ | fail)
local macro_rules | `(tactic| o_reads) => `(tactic| first | with_reducible refine rd_isNn ?_ | fail)
local macro_rules | `(tactic| o_reads) => `(tactic| first | with_reducible refine rd_notNe ?_ | fail)
local macro_rules | `(tactic| o_reads) => `(tactic| first | with_reducible refine rd_isNe ?_ | fail)
local macro_rules | `(tactic| o_reads) => `(tactic| first | ((with_reducible apply rd_ixL); exact rfl) | fail)
local macro_rules | `(tactic| o_reads) => `(tactic| first | ((with_reducible apply rd_ixT); exact rfl) | fail)
local macro_rules | `(tactic| o_reads) => `(tactic| first | (((with_reducible refine rd_atD ?_ ?_ ?_); (first | assumption | omega)); (first | assumption | omega)) | fail)
local macro_rules | `(tactic| o_reads) => `(tactic| first | with_reducible refine rd_p4 ?_ | fail)
local macro_rules | `(tactic| o_reads) => `(tactic| first | with_reducible refine rd_p3 ?_ | fail)
local macro_rules | `(tactic| o_reads) => `(tactic| first | with_reducible refine rd_p2 ?_ | fail)
local macro_rules | `(tactic| o_reads) => `(tactic| first | with_reducible refine rd_p1 ?_ | fail)
local macro_rules | `(tactic| o_reads) => `(tactic| first | with_reducible refine rd_p0 ?_ | fail)
local macro_rules | `(tactic| o_reads) => `(tactic| first | ((with_reducible refine rd_neg1 ?_ ?_); assumption) | fail)
local macro_rules | `(tactic| o_reads) => `(tactic| first | with_reducible refine rd_s1 ?_ | fail)
local macro_rules | `(tactic| o_reads) => `(tactic| first | with_reducible refine rd_s0 ?_ | fail)
local macro_rules | `(tactic| o_reads) => `(tactic| first | with_reducible refine rd_negT ?_ | fail)
local macro_rules | `(tactic| o_reads) => `(tactic| first | with_reducible refine rd_e3 ?_ | fail)
local macro_rules | `(tactic| o_reads) => `(tactic| first | with_reducible refine rd_e2 ?_ | fail)
local macro_rules | `(tactic| o_reads) => `(tactic| first | with_reducible refine rd_e1 ?_ | fail)
local macro_rules | `(tactic| o_reads) => `(tactic| first | with_reducible refine rd_e0 ?_ | fail)
local macro_rules | `(tactic| o_reads) => `(tactic| first | with_reducible refine ru_neg ?_ | fail)
local macro_rules | `(tactic| o_reads) => `(tactic| first | (((with_reducible refine rd_pow ?_ ?_); exact ⟨by decide, by decide, by decide⟩); dsimp only [Int.reduceToNat]) | fail)
local macro_rules | `(tactic| o_reads) => `(tactic| first | with_reducible refine rd_mul ?_ ?_ | fail)
local macro_rules | `(tactic| o_reads) => `(tactic| first | (((with_reducible refine rd_mulL ?_ ?_ ?_); (first | assumption | exact EfLg.l (by assumption) | exact EfLg.a (by assumption) | exact EfLg.b (by assumption))); (first | assumption | exact EfLg.b (by assumption))) | fail)
local macro_rules | `(tactic| o_reads) => `(tactic| first | ((with_reducible refine rd_mul ?_ ?_); first | exact .inl ⟨by omega, by omega⟩ | exact .inr ⟨by omega, by omega⟩) | fail)
local macro_rules | `(tactic| o_reads) => `(tactic| first | with_reducible refine rd_div ?_ ?_ | fail)
local macro_rules | `(tactic| o_reads) => `(tactic| first | ((with_reducible refine rd_div ?_ ?_); exact ⟨by o_shape, by first | decide | (apply lg <;> omega)⟩) | fail)
local macro_rules | `(tactic| o_reads) => `(tactic| first | (((with_reducible refine rd_divL ?_ ?_ ?_); omega); (first | assumption | exact EfLg.b (by assumption))) | fail)
local macro_rules | `(tactic| o_reads) => `(tactic| first | with_reducible refine rd_mod ?_ ?_ | fail)
local macro_rules | `(tactic| o_reads) => `(tactic| first | ((with_reducible refine rd_mod ?_ ?_); o_shape) | fail)
local macro_rules | `(tactic| o_reads) => `(tactic| first | with_reducible refine rd_ge ?_ | fail)
local macro_rules | `(tactic| o_reads) => `(tactic| first | with_reducible refine rd_gt ?_ | fail)
local macro_rules | `(tactic| o_reads) => `(tactic| first | with_reducible refine rd_le ?_ | fail)
local macro_rules | `(tactic| o_reads) => `(tactic| first | with_reducible refine rd_lt ?_ | fail)
local macro_rules | `(tactic| o_reads) => `(tactic| first | with_reducible refine rd_neS ?_ | fail)
local macro_rules | `(tactic| o_reads) => `(tactic| first | with_reducible refine rd_neI2 ?_ | fail)
local macro_rules | `(tactic| o_reads) => `(tactic| first | with_reducible refine rd_eqS ?_ | fail)
local macro_rules | `(tactic| o_reads) => `(tactic| first | with_reducible refine rd_eqB ?_ | fail)
local macro_rules | `(tactic| o_reads) => `(tactic| first | with_reducible refine rd_eqI ?_ | fail)
local macro_rules | `(tactic| o_reads) => `(tactic| first | with_reducible refine rd_sub ?_ | fail)
local macro_rules | `(tactic| o_reads) => `(tactic| first | with_reducible refine rd_addI ?_ | fail)
local macro_rules | `(tactic| o_reads) => `(tactic| first | with_reducible refine g_tup rfl ?_ | fail)
local macro_rules | `(tactic| o_reads) => `(tactic| first | with_reducible refine gs_nil ?_ | fail)
local macro_rules | `(tactic| o_reads) => `(tactic| first | with_reducible refine gs_cons ?_ | fail)
local macro_rules | `(tactic| o_reads) => `(tactic| first | with_reducible refine g_name ?_ | fail)
local macro_rules | `(tactic| o_reads) => `(tactic| first | ((fail_if_success (with_reducible refine b_asgLst ?_)); (with_reducible refine b_asgG ?_)) | fail)
local macro_rules | `(tactic| o_reads) => `(tactic| first | ((with_reducible apply b_aug); exact rfl) | fail)
local macro_rules | `(tactic| o_reads) => `(tactic| first | with_reducible refine b_par ?_ | fail)
local macro_rules | `(tactic| o_reads) => `(tactic| first | with_reducible refine b_drop ?_ | fail)
local macro_rules | `(tactic| o_reads) => `(tactic| first | ((with_reducible apply b_ext rfl); exact rfl) | fail)
local macro_rules | `(tactic| o_reads) => `(tactic| first | ((with_reducible apply b_clr rfl); exact rfl) | fail)
local macro_rules | `(tactic| o_reads) => `(tactic| first | ((with_reducible apply b_rev rfl); exact rfl) | fail)
local macro_rules | `(tactic| o_reads) => `(tactic| first | ((with_reducible apply b_app rfl); exact rfl) | fail)
local macro_rules | `(tactic| o_reads) => `(tactic| first | with_reducible refine b_cont ?_ | fail)
local macro_rules | `(tactic| o_reads) => `(tactic| first | with_reducible refine b_brk ?_ | fail)
local macro_rules | `(tactic| o_reads) => `(tactic| first | with_reducible refine b_retN ?_ | fail)
local macro_rules | `(tactic| o_reads) => `(tactic| first | ((fail_if_success (with_reducible refine b_asgLst ?_)); (with_reducible refine b_asg ?_)) | fail)
local macro_rules | `(tactic| o_reads) => `(tactic| first | with_reducible refine b_next ?_ | fail)
local macro_rules | `(tactic| o_reads) => `(tactic| first | with_reducible refine b_ret ?_ | fail)
local macro_rules | `(tactic| o_reads) => `(tactic| first | with_reducible refine b_if ?_ | fail)
local macro_rules | `(tactic| o_reads) => `(tactic| first | with_reducible refine b_ifR ?_ ?_ | fail)
local macro_rules | `(tactic| o_reads) => `(tactic| first | with_reducible refine b_seq ?_ | fail)
local macro_rules | `(tactic| o_reads) => `(tactic| first | with_reducible refine ev_chain ?_ | fail)
local macro_rules | `(tactic| o_reads) => `(tactic| first | with_reducible refine ev_if ?_ | fail)
local macro_rules | `(tactic| o_reads) => `(tactic| first | with_reducible refine ev_notV ?_ | fail)
local macro_rules | `(tactic| o_reads) => `(tactic| first | with_reducible refine ev_orV ?_ | fail)
local macro_rules | `(tactic| o_reads) => `(tactic| first | with_reducible refine ev_andV ?_ | fail)
local macro_rules | `(tactic| o_reads) => `(tactic| first | with_reducible refine ev_lst ?_ | fail)
local macro_rules | `(tactic| o_reads) => `(tactic| first | with_reducible refine ev_tup ?_ | fail)
local macro_rules | `(tactic| o_reads) => `(tactic| first | with_reducible refine et_or ?_ | fail)
local macro_rules | `(tactic| o_reads) => `(tactic| first | with_reducible refine et_and ?_ | fail)
local macro_rules | `(tactic| o_reads) => `(tactic| first | with_reducible refine et_not ?_ | fail)
local macro_rules | `(tactic| o_reads) => `(tactic| first | with_reducible refine et_b ?_ | fail)
local macro_rules | `(tactic| o_reads) => `(tactic| first | with_reducible refine et_test ?_ | fail)
local macro_rules | `(tactic| o_reads) => `(tactic| first | with_reducible refine ev_cb ?_ | fail)
local macro_rules | `(tactic| o_reads) => `(tactic| first | with_reducible refine ev_un ?_ | fail)
local macro_rules | `(tactic| o_reads) => `(tactic| first | with_reducible refine ev_op ?_ | fail)
local macro_rules | `(tactic| o_reads) => `(tactic| first | ((with_reducible apply ev_lenO rfl); exact rfl) | fail)
local macro_rules | `(tactic| o_reads) => `(tactic| first | ((with_reducible apply ev_ixO rfl); exact rfl) | fail)
local macro_rules | `(tactic| o_reads) => `(tactic| first | with_reducible refine ea_cons ?_ | fail)
local macro_rules | `(tactic| o_reads) => `(tactic| first | with_reducible refine ea_nil ?_ | fail)
local macro_rules | `(tactic| o_reads) => `(tactic| first | with_reducible refine ev_ty ?_ | fail)
local macro_rules | `(tactic| o_reads) => `(tactic| first | with_reducible refine ev_non ?_ | fail)
local macro_rules | `(tactic| o_reads) => `(tactic| first | with_reducible refine ev_bl ?_ | fail)
local macro_rules | `(tactic| o_reads) => `(tactic| first | with_reducible refine ev_str ?_ | fail)
local macro_rules | `(tactic| o_reads) => `(tactic| first | with_reducible refine ev_int ?_ | fail)
local macro_rules | `(tactic| o_reads) => `(tactic| first | ((with_reducible apply ev_var); exact rfl) | fail)
local macro_rules | `(tactic| o_readsAll) => `(tactic| repeat' o_reads)
/-! ### an effect tells the strengths behind its row -/
theorem turned_zero {p : Plan} (ok : p.Ok) (n : Int) : p.turned 0 n = 0 := by
  obtain ⟨s1, s2, s3, s4⟩ := coming_ok ok n
  unfold Plan.turned
  rw [Int.zero_ediv]
  omega
theorem fin_zero {p : Plan} (ok : p.Ok) : ∀ (l : List Bool) (n : Int), (p.fin (0, n) l).1 = 0
  | [], _ => rfl
  | true :: r, n => fin_zero ok r _
  | false :: r, n => by
    show (p.fin (p.turned 0 n, n + 1) r).1 = 0
    rw [turned_zero ok]
    exact fin_zero ok r _
theorem min_ediv {a b c d : Int} (hd : 0 < d) : (min a b + c) / d = min ((a + c) / d) ((b + c) / d) := by
  by_cases h : a ≤ b
  · have := Int.ediv_le_ediv hd (show a + c ≤ b + c by omega)
    rw [Int.min_eq_left h, Int.min_eq_left this]
  · have := Int.ediv_le_ediv hd (show b + c ≤ a + c by omega)
    rw [Int.min_eq_right (by omega), Int.min_eq_right this]
theorem thr_join {x y : Ef} (hx : 1 ≤ x.by_) (hy : 1 ≤ y.by_) (hl : 1 ≤ y.least) (s : Int) : thr (joinE x y) s = thr (some y) (thr (some x) s) := by
  have key : ∀ u : Int, (u / x.by_ + y.add) / y.by_ = (u + y.add * x.by_) / (x.by_ * y.by_) := fun u => by
    rw [← Int.ediv_ediv_of_nonneg (by omega), Int.add_mul_ediv_right _ _ (by omega)]
  unfold joinE
  split
  · rename_i h
    show 0 = (if thr (some x) s < y.least then 0 else min y.top ((thr (some x) s + y.add) / y.by_))
    have : thr (some x) s < y.least := by
      show (if s < x.least then 0 else min x.top ((s + x.add) / x.by_)) < _
      split <;> omega
    rw [if_pos this]
  · rename_i h
    show (if s < max x.least (y.least * x.by_ - x.add) then 0 else min (min y.top ((x.top + y.add) / y.by_)) ((s + (x.add + y.add * x.by_)) / (x.by_ * y.by_))) = (if thr (some x) s < y.least then 0 else min y.top ((thr (some x) s + y.add) / y.by_))
    have e : thr (some x) s = if s < x.least then 0 else min x.top ((s + x.add) / x.by_) := rfl
    rw [e]
    by_cases h1 : s < x.least
    · rw [if_pos (show s < max x.least _ by omega), if_pos h1, if_pos (show (0 : Int) < y.least by omega)]
    · rw [if_neg h1]
      by_cases h2 : s < y.least * x.by_ - x.add
      · have h3 : (s + x.add) / x.by_ < y.least := Int.ediv_lt_of_lt_mul (by omega) (by omega)
        rw [if_pos (show s < max x.least _ by omega), if_pos (show min x.top _ < y.least by omega)]
      · have h3 : y.least ≤ (s + x.add) / x.by_ := (Int.le_ediv_iff_mul_le (by omega)).mpr (by omega)
        rw [if_neg (show ¬ s < max x.least _ by omega), if_neg (show ¬ min x.top _ < y.least by omega), min_ediv (by omega), key, show s + x.add + y.add * x.by_ = s + (x.add + y.add * x.by_) by omega, Int.min_assoc]
theorem thr_part {p : Plan} (ok : p.Ok) {n s : Int} (h0 : 0 ≤ s) (h1 : s ≤ p.cap) (b : Bool) : thr (p.part n b) s = (p.after (s, n) b).1 := by
  have c1 := ok.c1
  have u1 := ok.u1
  cases b with
  | true =>
    show (if s < 1 then 0 else min p.cap ((s + p.up) / 1)) = p.asked s
    unfold Plan.asked
    rw [Int.ediv_one]
    split <;> split <;> omega
  | false =>
    obtain ⟨s1, s2, s3, s4⟩ := coming_ok ok n
    show thr (turnE (p.coming n) p.cap) s = p.turned s n
    unfold Plan.turned turnE
    generalize (p.coming n).1 = d at *
    generalize (p.coming n).2 = t at *
    have m : s / d ≤ p.cap / d := Int.ediv_le_ediv (by omega) h1
    split
    · show 0 = _
      omega
    · show (if s < d * (t + 1) then 0 else min (p.cap / d - t) ((s + -(d * t)) / d)) = _
      have m2 : (s + -(d * t)) / d = s / d - t := by
        rw [show s + -(d * t) = s + d * (-t) by rw [Int.mul_neg], Int.add_mul_ediv_left _ _ (by omega)]
        omega
      rw [m2]
      split
      · rename_i z
        have : s / d < t + 1 := Int.ediv_lt_of_lt_mul (by omega) (by rw [Int.mul_comm]; exact z)
        omega
      · rename_i z
        have : t + 1 ≤ s / d := (Int.le_ediv_iff_mul_le (by omega)).mpr (by rw [Int.mul_comm]; omega)
        omega
/-- what stands of an effect behind signs -/
structure EfT (p : Plan) (x : Ef) : Prop where
  l1 : 1 ≤ x.least
  l2 : x.least ≤ p.cap
  b1 : 1 ≤ x.by_
  t1 : 1 ≤ x.top
  t2 : x.top ≤ p.cap
  t3 : x.top ≤ (p.cap + x.add) / x.by_
  on : x.by_ ≤ x.least + x.add
theorem EfT.one {p : Plan} (ok : p.Ok) : EfT p (oneE p) := by
  have c1 := ok.c1
  exact ⟨Int.le_refl _, c1, Int.le_refl _, c1, Int.le_refl _, by show p.cap ≤ (p.cap + 0) / 1; rw [Int.ediv_one]; omega, by show (1 : Int) ≤ 1 + 0; decide⟩
theorem EfT.thr_cap {p : Plan} {x : Ef} (h : EfT p x) : thr (some x) p.cap = x.top := by
  show (if p.cap < x.least then 0 else min x.top ((p.cap + x.add) / x.by_)) = _
  rw [if_neg (by have := h.l2; omega), Int.min_eq_left h.t3]
theorem EfT.thr_le {p : Plan} {x : Ef} (h : EfT p x) {s : Int} (hs : 0 ≤ s) : 0 ≤ thr (some x) s ∧ thr (some x) s ≤ p.cap := by
  have h2 := h.t1
  have h3 := h.t2
  have h4 := h.b1
  have h5 := h.on
  have h6 := h.l1
  show 0 ≤ (if s < x.least then 0 else min x.top ((s + x.add) / x.by_)) ∧ (if s < x.least then 0 else min x.top ((s + x.add) / x.by_)) ≤ p.cap
  split
  · omega
  · have : 1 ≤ (s + x.add) / x.by_ := (Int.le_ediv_iff_mul_le (by omega)).mpr (by omega)
    omega
theorem EfT.below {p : Plan} {x : Ef} (h : EfT p x) {s : Int} (hs : s < x.least) : thr (some x) s = 0 := if_pos hs
theorem EfT.above {p : Plan} {x : Ef} (h : EfT p x) {s : Int} (hs : x.least ≤ s) : 1 ≤ thr (some x) s := by
  have h2 := h.t1
  have h4 := h.b1
  have h5 := h.on
  show 1 ≤ (if s < x.least then 0 else min x.top ((s + x.add) / x.by_))
  rw [if_neg (by omega)]
  have : 1 ≤ (s + x.add) / x.by_ := (Int.le_ediv_iff_mul_le (by omega)).mpr (by omega)
  omega
theorem EfT.join {p : Plan} {x y z : Ef} (h : EfT p x) (hy : PartOk y) (hc : y.top ≤ p.cap) (e : joinE x y = some z) : EfT p z := by
  obtain ⟨l1, l2, b1, t1, t2, t3, on⟩ := h
  obtain ⟨k1, k2, c1, c2, d1, d2, u1, u2, on'⟩ := hy
  unfold joinE at e
  split at e
  · cases e
  · rename_i hz
    cases e
    have m5 : x.by_ * 1 ≤ x.by_ * y.by_ := Int.mul_le_mul_of_nonneg_left d1 (by omega)
    have m6 : 1 ≤ (x.top + y.add) / y.by_ := (Int.le_ediv_iff_mul_le (by omega)).mpr (by omega)
    have g : y.least * x.by_ ≤ p.cap + x.add := by
      have : y.least ≤ (p.cap + x.add) / x.by_ := by omega
      exact (Int.le_ediv_iff_mul_le (by omega)).mp this
    have key : (p.cap + (x.add + y.add * x.by_)) / (x.by_ * y.by_) = ((p.cap + x.add) / x.by_ + y.add) / y.by_ := by
      rw [← Int.ediv_ediv_of_nonneg (by omega), show p.cap + (x.add + y.add * x.by_) = p.cap + x.add + y.add * x.by_ by omega, Int.add_mul_ediv_right _ _ (by omega)]
    have m7 : (x.top + y.add) / y.by_ ≤ ((p.cap + x.add) / x.by_ + y.add) / y.by_ := Int.ediv_le_ediv (by omega) (by omega)
    have m8 : x.by_ * y.by_ ≤ x.by_ * (y.least + y.add) := Int.mul_le_mul_of_nonneg_left on' (by omega)
    have m9 : x.by_ * (y.least + y.add) = y.least * x.by_ + y.add * x.by_ := by rw [Int.mul_add, Int.mul_comm x.by_ y.least, Int.mul_comm x.by_ y.add]
    exact ⟨by show 1 ≤ max _ _; omega, by show max x.least (y.least * x.by_ - x.add) ≤ p.cap; omega, by show 1 ≤ x.by_ * y.by_; omega, by show 1 ≤ min y.top _; omega, by show min y.top _ ≤ p.cap; omega,
      by show min y.top ((x.top + y.add) / y.by_) ≤ (p.cap + (x.add + y.add * x.by_)) / (x.by_ * y.by_); rw [key]; omega, by show x.by_ * y.by_ ≤ max x.least (y.least * x.by_ - x.add) + (x.add + y.add * x.by_); omega⟩
theorem part_top {p : Plan} (ok : p.Ok) {n : Int} {b : Bool} {y : Ef} (h : p.part n b = some y) : y.top ≤ p.cap := by
  have c1 := ok.c1
  obtain ⟨s1, s2, s3, s4⟩ := coming_ok ok n
  cases b with
  | true => cases h; exact Int.le_refl _
  | false =>
    have h' : turnE (p.coming n) p.cap = some y := h
    unfold turnE at h'
    split at h'
    · cases h'
    · cases h'
      have m6 : p.cap / (p.coming n).1 ≤ p.cap := Int.ediv_le_self _ (by omega)
      show p.cap / (p.coming n).1 - (p.coming n).2 ≤ p.cap
      omega
theorem after_snd' (p : Plan) (x : Int × Int) (b : Bool) : (p.after x b).2 = p.sncs x.2 b := by cases b <;> rfl
theorem after_eq {p : Plan} (t n : Int) (b : Bool) : p.after (t, n) b = ((p.after (t, n) b).1, p.sncs n b) := by cases b <;> rfl
/-- THE LAW of effects -/
theorem thr_eff {p : Plan} (ok : p.Ok) : ∀ (l : List Bool) (x : Ef) (n s : Int), EfT p x → 0 ≤ s → s ≤ p.cap → thr (p.eff x n l) s = (p.fin (thr (some x) s, n) l).1
  | [], _, _, _, _, _, _ => rfl
  | b :: r, x, n, s, hx, h0, h1 => by
    obtain ⟨t0, t1⟩ := hx.thr_le h0
    have hp := thr_part ok (n := n) t0 t1 b
    rw [eff_cons]
    show _ = (p.fin (p.after (thr (some x) s, n) b) r).1
    rw [after_eq, ← hp]
    unfold Plan.stepE
    cases hpt : p.part n b with
    | none =>
      show 0 = (p.fin (0, _) r).1
      rw [fin_zero ok]
    | some y =>
      have hy := part_ok ok hpt
      have hj := thr_join hx.b1 hy.b1 hy.l1 s
      show thr ((joinE x y).bind _) s = _
      cases hz : joinE x y with
      | none =>
        rw [hz] at hj
        rw [← hj]
        show 0 = (p.fin (0, _) r).1
        rw [fin_zero ok]
      | some z =>
        rw [hz] at hj
        rw [← hj]
        exact thr_eff ok r z _ s (hx.join hy (part_top ok hpt) hz) h0 h1
theorem eff_T {p : Plan} (ok : p.Ok) : ∀ (l : List Bool) (x y : Ef) (n : Int), EfT p x → p.eff x n l = some y → EfT p y
  | [], x, y, n, h, e => by cases e; exact h
  | b :: r, x, y, n, h, e => by
    rw [eff_cons] at e
    unfold Plan.stepE at e
    cases hp : p.part n b with
    | none => rw [hp] at e; cases e
    | some q =>
      rw [hp] at e
      have e' : ((joinE x q).bind fun y => p.eff y (p.sncs n b) r) = some y := e
      cases hj : joinE x q with
      | none => rw [hj] at e'; cases e'
      | some z =>
        rw [hj] at e'
        exact eff_T ok r z y _ (h.join (part_ok ok hp) (part_top ok hp) hj) e'
theorem eff_fin {p : Plan} (ok : p.Ok) (l : List Bool) {n s : Int} (h0 : 0 ≤ s) (h1 : s ≤ p.cap) : thr (p.eff (oneE p) n l) s = (p.fin (s, n) l).1 := by
  rw [thr_eff ok l _ n s (EfT.one ok) h0 h1]
  have e : thr (some (oneE p)) s = s := by
    show (if s < 1 then 0 else min p.cap ((s + 0) / 1)) = s
    rw [Int.ediv_one]
    split <;> omega
  rw [e]
theorem eff_none {p : Plan} (ok : p.Ok) {l : List Bool} {n : Int} (h : p.eff (oneE p) n l = none) {s : Int} (h0 : 0 ≤ s) (h1 : s ≤ p.cap) : (p.fin (s, n) l).1 = 0 := by
  rw [← eff_fin ok l h0 h1, h]
  rfl
theorem eff_fit {p : Plan} (ok : p.Ok) {l : List Bool} {n : Int} (hl : l.length ≤ 200) : Fit (efO (p.eff (oneE p) n l)) := by
  cases h : p.eff (oneE p) n l with
  | none => exact fit_non
  | some y => exact (eff_ok ok l 0 _ _ _ (one_ok ok) h).fit (by omega)
/-! ### is_effect, passed -/
structure EfGood (x : Ef) : Prop where
  l1 : 1 ≤ x.least
  l2 : x.least < 10 ^ 400
  a1 : -(10 ^ 400) < x.add
  a2 : x.add < 10 ^ 400
  b1 : 1 ≤ x.by_
  b2 : x.by_ < 10 ^ 400
  t1 : 1 ≤ x.top
  t2 : x.top < 10 ^ 400
theorem pow16_le {k : Nat} (h : k ≤ 300) : (200000000000 : Int) * 16 ^ k < 10 ^ 400 := by
  have h1 : (16 : Nat) ^ k ≤ 16 ^ 300 := Nat.pow_le_pow_right (by decide) h
  have h2 : (16 : Int) ^ k ≤ 16 ^ 300 := by exact_mod_cast h1
  have h3 : (200000000000 : Int) * 16 ^ 300 < 10 ^ 400 := by decide +kernel
  exact Int.lt_of_le_of_lt (Int.mul_le_mul_of_nonneg_left h2 (by decide)) h3
theorem EfOk.good {k : Nat} {x : Ef} (h : EfOk k x) (hk : k ≤ 300) : EfGood x := by
  have hp := pow16 k
  have hg := pow16_le hk
  have key : ∀ i : Int, i ≤ 200000000000 * 16 ^ k → i < 10 ^ 400 := fun i h => Int.lt_of_le_of_lt h hg
  have key2 : ∀ i : Int, -(200000000000 * 16 ^ k) ≤ i → -(10 ^ 400) < i := fun i h => Int.lt_of_lt_of_le (Int.neg_lt_neg hg) h
  obtain ⟨l1, l2, a1, a2, b1, b2, t1, t2⟩ := h
  refine ⟨l1, key _ l2, key2 _ ?_, key _ ?_, b1, key _ ?_, t1, key _ ?_⟩
  all_goals generalize (16 : Int) ^ k = P at *; omega
theorem sqNT {A B : Prop} (h : A) : ((!true) = false → A) ∧ ((!true) = true → B) := ⟨fun _ => h, fun z => (by cases z)⟩
theorem sqNF {A B : Prop} (h : B) : ((!false) = false → A) ∧ ((!false) = true → B) := ⟨fun z => (by cases z), fun _ => h⟩
def F_is_effect (_ : PySem.W.Frag) : FSpec := fun ds Φ _ => ∃ x : Ef, ds = [efD x] ∧ EfGood x ∧ Φ (.bl true)
def F_passed (_ : PySem.W.Frag) : FSpec := fun ds Φ _ => ∃ (e : Option Ef) (s : Int), ds = [efO e, .int s] ∧ ((∀ x, e = some x → EfGood x ∧ EfLg x) ∧ 0 ≤ s ∧ s ≤ 10 ^ 9) ∧ Φ (.int (if s = 0 then 0 else thr e s))
def t_is_effect (K : PySem.W.Frag) (E : XK) : TS :=
    (tSeq (tIfS (tOr (tNot (tB (tCB (rIsi K) (tCons (tVar 0) (tCons (tC (.ty "tuple")) tNil))))) (tTest (tOp (rNeU K) (tCB (rLenU K) (tCons (tVar 0) tNil)) (tC (.int 4)))))
     (tRet (tC (.bl false)))
     tNext)
    (tSeq (tFor (iU K (tVar 0)) (gName 1)
     (tIfS (tOr (tNot (tB (tCl 1 0 (lift K pureM (F_is_whole K)) gvAll E (tCons (tVar 1) tNil) tNil))) (tNot (tTest (tChain rLtU rLtU (tUn rNegU (tC (.int (10 ^ 400)))) (tVar 1) (tC (.int (10 ^ 400)))))))
       (tRet (tC (.bl false)))
       tNext))
    (tRet (tAndV (tOp rGeU (tOp (rIx K) (tVar 0) (tC (.int 0))) (tC (.int 1))) (tAndV (tOp rGeU (tOp (rIx K) (tVar 0) (tC (.int 2))) (tC (.int 1))) (tOp rGeU (tOp (rIx K) (tVar 0) (tC (.int 3))) (tC (.int 1))))))))
def t_passed (K : PySem.W.Frag) (E : XK) : TS :=
    (tSeq (tIfS (tAnd (tTest (tOp rNotNone (tVar 0) (tC .non))) (tNot (tB (tCl 1 0 (lift K pureM (F_is_effect K)) gvAll E (tCons (tVar 0) tNil) tNil))))
     tNever
     tNext)
    (tSeq (tIfS (tAnd (tNot (tB (tCl 1 0 (lift K pureM (F_is_strength K)) gvAll E (tCons (tVar 1) tNil) tNil))) (tNot (tAnd (tB (tCl 1 0 (lift K pureM (F_is_whole K)) gvAll E (tCons (tVar 1) tNil) tNil)) (tTest (tOp (rEqU K) (tVar 1) (tC (.int 0)))))))
     tNever
     tNext)
    (tSeq (tIfS (tTest (tOp (rEqU K) (tVar 1) (tC (.int 0))))
     (tRet (tC (.int 0)))
     tNext)
    (tRet (tCl 2 0 (lift K pureM (F_through K)) gvAll E (tCons (tVar 0) (tCons (tVar 1) tNil)) tNil)))))
local macro_rules | `(tactic| o_shape) => `(tactic| first | assumption | rfl | trivial | omega | decide)
local macro_rules | `(tactic| o_reads) => `(tactic| first | fail "no rule" | fail)
local macro_rules | `(tactic| o_reads) => `(tactic| first | (apply Exists.intro; (repeat apply Exists.intro); exact rfl) | fail)
local macro_rules | `(tactic| o_reads) => `(tactic| first | refine And.intro (by omega) ?_ | fail)
local macro_rules | `(tactic| o_reads) => `(tactic| first | refine And.intro (by assumption) ?_ | fail)
local macro_rules | `(tactic| o_reads) => `(tactic| first | refine And.intro (by assumption : Plan.Ok _) ?_ | fail)
local macro_rules | `(tactic| o_reads) => `(tactic| first | refine ⟨by exact Nat.le_of_ble_eq_true rfl, ?_⟩ | fail)
local macro_rules | `(tactic| o_reads) => `(tactic| first | refine ⟨rfl, ?_⟩ | fail)
local macro_rules | `(tactic| o_reads) => `(tactic| first | refine ⟨_, _, _, _, rfl, ?_⟩ | fail)
local macro_rules | `(tactic| o_reads) => `(tactic| first | refine ⟨_, _, _, rfl, ?_⟩ | fail)
local macro_rules | `(tactic| o_reads) => `(tactic| first | refine ⟨_, _, rfl, ?_⟩ | fail)
local macro_rules | `(tactic| o_reads) => `(tactic| first | refine ⟨_, rfl, ?_⟩ | fail)
local macro_rules | `(tactic| o_reads) => `(tactic| first | refine And.intro (And.intro (by first | decide | omega) (by first | decide | omega)) ?_ | fail)
local macro_rules | `(tactic| o_reads) => `(tactic| first | with_reducible refine eo_part ?_ | fail)
local macro_rules | `(tactic| o_reads) => `(tactic| first | with_reducible refine eo_none ?_ | fail)
local macro_rules | `(tactic| o_reads) => `(tactic| first | (((with_reducible apply rd_atM); (first | assumption | omega)); assumption) | fail)
local macro_rules | `(tactic| o_reads) => `(tactic| first | refine ⟨fit_step (coming_ok (by assumption) _), ?_⟩ | fail)
local macro_rules | `(tactic| o_reads) => `(tactic| first | refine ⟨fit_int ⟨by omega, by omega⟩, ?_⟩ | fail)
local macro_rules | `(tactic| o_reads) => `(tactic| first | ((with_reducible refine rc_isW ?_ ?_); assumption) | fail)
local macro_rules | `(tactic| o_reads) => `(tactic| first | with_reducible refine ev_adr ?_ | fail)
local macro_rules | `(tactic| o_reads) => `(tactic| first | with_reducible exact rfl | fail)
local macro_rules | `(tactic| o_reads) => `(tactic| first | exact dn_t (by omega) | fail)
local macro_rules | `(tactic| o_reads) => `(tactic| first | exact dn_f (by omega) | fail)
local macro_rules | `(tactic| o_reads) => `(tactic| first | exact decide_eq_true (by omega) | fail)
local macro_rules | `(tactic| o_reads) => `(tactic| first | exact decide_eq_false (by omega) | fail)
local macro_rules | `(tactic| o_reads) => `(tactic| first | exact (rfl : (!true) = false) | fail)
local macro_rules | `(tactic| o_reads) => `(tactic| first | refine sprn (fun z => ?_) (fun z => ?_) | fail)
local macro_rules | `(tactic| o_reads) => `(tactic| first | refine spln (fun z => ?_) (fun z => ?_) | fail)
local macro_rules | `(tactic| o_reads) => `(tactic| first | refine spr (fun z => ?_) (fun z => ?_) | fail)
local macro_rules | `(tactic| o_reads) => `(tactic| first | refine spl (fun z => ?_) (fun z => ?_) | fail)
local macro_rules | `(tactic| o_reads) => `(tactic| first | with_reducible refine sqNF ?_ | fail)
local macro_rules | `(tactic| o_reads) => `(tactic| first | with_reducible refine sqNT ?_ | fail)
local macro_rules | `(tactic| o_reads) => `(tactic| first | with_reducible refine spNF ?_ | fail)
local macro_rules | `(tactic| o_reads) => `(tactic| first | with_reducible refine spNT ?_ | fail)
local macro_rules | `(tactic| o_reads) => `(tactic| first | refine sprn (fun _ => ?_) (fun z => absurd z (by omega)) | fail)
local macro_rules | `(tactic| o_reads) => `(tactic| first | refine sprn (fun z => absurd z (by omega)) (fun _ => ?_) | fail)
local macro_rules | `(tactic| o_reads) => `(tactic| first | refine spln (fun _ => ?_) (fun z => absurd z (by omega)) | fail)
local macro_rules | `(tactic| o_reads) => `(tactic| first | refine spln (fun z => absurd z (by omega)) (fun _ => ?_) | fail)
local macro_rules | `(tactic| o_reads) => `(tactic| first | refine spr (fun _ => ?_) (fun z => absurd z (by omega)) | fail)
local macro_rules | `(tactic| o_reads) => `(tactic| first | refine spr (fun z => absurd z (by omega)) (fun _ => ?_) | fail)
local macro_rules | `(tactic| o_reads) => `(tactic| first | refine spl (fun _ => ?_) (fun z => absurd z (by omega)) | fail)
local macro_rules | `(tactic| o_reads) => `(tactic| first | refine spl (fun z => absurd z (by omega)) (fun _ => ?_) | fail)
local macro_rules | `(tactic| o_reads) => `(tactic| first | with_reducible refine sprf ?_ | fail)
local macro_rules | `(tactic| o_reads) => `(tactic| first | with_reducible refine sprt ?_ | fail)
local macro_rules | `(tactic| o_reads) => `(tactic| first | with_reducible refine spff ?_ | fail)
local macro_rules | `(tactic| o_reads) => `(tactic| first | with_reducible refine sptt ?_ | fail)
local macro_rules | `(tactic| o_reads) => `(tactic| first | ((with_reducible refine ev_wm rfl ?_ ?_); decide +kernel) | fail)
local macro_rules | `(tactic| o_reads) => `(tactic| first | ((with_reducible refine ev_anew ?_ ?_); assumption) | fail)
local macro_rules | `(tactic| o_reads) => `(tactic| first | ((with_reducible refine ev_up ?_ ?_); assumption) | fail)
local macro_rules | `(tactic| o_reads) => `(tactic| first | ((with_reducible refine ev_cap ?_ ?_); assumption) | fail)
local macro_rules | `(tactic| o_reads) => `(tactic| first | ((with_reducible refine ev_ts ?_ ?_); assumption) | fail)
local macro_rules | `(tactic| o_reads) => `(tactic| first | ((with_reducible refine ev_hs ?_ ?_); assumption) | fail)
local macro_rules | `(tactic| o_reads) => `(tactic| first | (((with_reducible apply ev_clB (hg := gAll) (hK := rfl)); assumption); assumption) | fail)
local macro_rules | `(tactic| o_reads) => `(tactic| first | (((with_reducible apply ev_tk rfl); assumption); assumption) | fail)
local macro_rules | `(tactic| o_reads) => `(tactic| first | with_reducible refine ev_cl Sub.pure gAll ?_ | fail)
local macro_rules | `(tactic| o_reads) => `(tactic| first | with_reducible refine ev_withinI rfl ?_ | fail)
local macro_rules | `(tactic| o_reads) => `(tactic| first | with_reducible refine ev_strengthI rfl ?_ | fail)
local macro_rules | `(tactic| o_reads) => `(tactic| first | with_reducible refine ev_sizeI rfl ?_ | fail)
local macro_rules | `(tactic| o_reads) => `(tactic| first | with_reducible refine ev_momentI rfl ?_ | fail)
local macro_rules | `(tactic| o_reads) => `(tactic| first | with_reducible refine ev_wholeI rfl ?_ | fail)
local macro_rules | `(tactic| o_reads) => `(tactic| first | with_reducible refine rd_asg ?_ | fail)
local macro_rules | `(tactic| o_reads) => `(tactic| first | with_reducible refine rd_dot ?_ | fail)
local macro_rules | `(tactic| o_reads) => `(tactic| first | with_reducible refine rc_lenRow (by omega) ?_ | fail)
local macro_rules | `(tactic| o_reads) => `(tactic| first | with_reducible refine ev_isrow rfl ?_ | fail)
local macro_rules | `(tactic| o_reads) => `(tactic| first | with_reducible refine ev_new (en_listRg ?_) | fail)
local macro_rules | `(tactic| o_reads) => `(tactic| first | with_reducible refine ev_new (en_rev rfl ?_) | fail)
local macro_rules | `(tactic| o_reads) => `(tactic| first | ((with_reducible refine rc_isS ?_ ?_); first | assumption | (simp [D.tyn]; done) | (apply plainD.ty; assumption)) | fail)
local macro_rules | `(tactic| o_reads) => `(tactic| first | ((with_reducible refine rc_isT ?_ ?_); first | assumption | (simp [D.tyn]; done) | (apply plainD.ty; assumption)) | fail)
local macro_rules | `(tactic| o_reads) => `(tactic| first | ((with_reducible refine rc_isL ?_ ?_); first | assumption | (simp [D.tyn]; done) | (apply plainD.ty; assumption)) | fail)
local macro_rules | `(tactic| o_reads) => `(tactic| first | ((with_reducible refine rc_isB ?_ ?_); first | assumption | (simp [D.tyn]; done) | (apply plainD.ty; assumption)) | fail)
local macro_rules | `(tactic| o_reads) => `(tactic| first | ((with_reducible refine rc_isI ?_ ?_); first | assumption | (simp [D.tyn]; done) | (apply plainD.ty; assumption)) | fail)
local macro_rules | `(tactic| o_reads) => `(tactic| first | with_reducible refine rc_intB ?_ | fail)
local macro_rules | `(tactic| o_reads) => `(tactic| first | with_reducible refine rc_intI ?_ | fail)
local macro_rules | `(tactic| o_reads) => `(tactic| first | with_reducible refine rc_min ?_ | fail)
local macro_rules | `(tactic| o_reads) => `(tactic| first | with_reducible refine rc_max ?_ | fail)
local macro_rules | `(tactic| o_reads) => `(tactic| first | with_reducible refine rc_abs ?_ | fail)
local macro_rules | `(tactic| o_reads) => `(tactic| first | with_reducible refine rc_lenT ?_ | fail)
local macro_rules | `(tactic| o_reads) => `(tactic| first | with_reducible refine rc_lenL ?_ | fail)
local macro_rules | `(tactic| o_reads) => `(tactic| first | with_reducible refine rc_lenD ?_ | fail)
local macro_rules | `(tactic| o_reads) => `(tactic| first | with_reducible refine rd_notN ?_ | fail)
local macro_rules | `(tactic| o_reads) => `(tactic| first | with_reducible refine rd_isN ?_ | fail)
local macro_rules | `(tactic| o_reads) => `(tactic| first | with_reducible refine rd_notNn ?_ | fail)
local macro_rules | `(tactic| o_reads) => `(tactic| first | with_reducible refine rd_isNn ?_ | fail)
local macro_rules | `(tactic| o_reads) => `(tactic| first | with_reducible refine rd_notNe ?_ | fail)
local macro_rules | `(tactic| o_reads) => `(tactic| first | with_reducible refine rd_isNe ?_ | fail)
local macro_rules | `(tactic| o_reads) => `(tactic| first | ((with_reducible apply rd_ixL); exact rfl) | fail)
local macro_rules | `(tactic| o_reads) => `(tactic| first | ((with_reducible apply rd_ixT); exact rfl) | fail)
local macro_rules | `(tactic| o_reads) => `(tactic| first | (((with_reducible refine rd_atD ?_ ?_ ?_); (first | assumption | omega)); (first | assumption | omega)) | fail)
local macro_rules | `(tactic| o_reads) => `(tactic| first | with_reducible refine rd_p4 ?_ | fail)
local macro_rules | `(tactic| o_reads) => `(tactic| first | with_reducible refine rd_p3 ?_ | fail)
local macro_rules | `(tactic| o_reads) => `(tactic| first | with_reducible refine rd_p2 ?_ | fail)
local macro_rules | `(tactic| o_reads) => `(tactic| first | with_reducible refine rd_p1 ?_ | fail)
local macro_rules | `(tactic| o_reads) => `(tactic| first | with_reducible refine rd_p0 ?_ | fail)
local macro_rules | `(tactic| o_reads) => `(tactic| first | ((with_reducible refine rd_neg1 ?_ ?_); assumption) | fail)
local macro_rules | `(tactic| o_reads) => `(tactic| first | with_reducible refine rd_s1 ?_ | fail)
local macro_rules | `(tactic| o_reads) => `(tactic| first | with_reducible refine rd_s0 ?_ | fail)
local macro_rules | `(tactic| o_reads) => `(tactic| first | with_reducible refine rd_negT ?_ | fail)
local macro_rules | `(tactic| o_reads) => `(tactic| first | with_reducible refine rd_e3 ?_ | fail)
local macro_rules | `(tactic| o_reads) => `(tactic| first | with_reducible refine rd_e2 ?_ | fail)
local macro_rules | `(tactic| o_reads) => `(tactic| first | with_reducible refine rd_e1 ?_ | fail)
local macro_rules | `(tactic| o_reads) => `(tactic| first | with_reducible refine rd_e0 ?_ | fail)
local macro_rules | `(tactic| o_reads) => `(tactic| first | with_reducible refine ru_neg ?_ | fail)
local macro_rules | `(tactic| o_reads) => `(tactic| first | (((with_reducible refine rd_pow ?_ ?_); exact ⟨by decide, by decide, by decide⟩); dsimp only [Int.reduceToNat]) | fail)
local macro_rules | `(tactic| o_reads) => `(tactic| first | with_reducible refine rd_mul ?_ ?_ | fail)
local macro_rules | `(tactic| o_reads) => `(tactic| first | (((with_reducible refine rd_mulL ?_ ?_ ?_); (first | assumption | exact EfLg.l (by assumption) | exact EfLg.a (by assumption) | exact EfLg.b (by assumption))); (first | assumption | exact EfLg.b (by assumption))) | fail)
local macro_rules | `(tactic| o_reads) => `(tactic| first | ((with_reducible refine rd_mul ?_ ?_); first | exact .inl ⟨by omega, by omega⟩ | exact .inr ⟨by omega, by omega⟩) | fail)
local macro_rules | `(tactic| o_reads) => `(tactic| first | with_reducible refine rd_div ?_ ?_ | fail)
local macro_rules | `(tactic| o_reads) => `(tactic| first | ((with_reducible refine rd_div ?_ ?_); exact ⟨by o_shape, by first | decide | (apply lg <;> omega)⟩) | fail)
local macro_rules | `(tactic| o_reads) => `(tactic| first | (((with_reducible refine rd_divL ?_ ?_ ?_); omega); (first | assumption | exact EfLg.b (by assumption))) | fail)
local macro_rules | `(tactic| o_reads) => `(tactic| first | with_reducible refine rd_mod ?_ ?_ | fail)
local macro_rules | `(tactic| o_reads) => `(tactic| first | ((with_reducible refine rd_mod ?_ ?_); o_shape) | fail)
local macro_rules | `(tactic| o_reads) => `(tactic| first | with_reducible refine rd_ge ?_ | fail)
local macro_rules | `(tactic| o_reads) => `(tactic| first | with_reducible refine rd_gt ?_ | fail)
local macro_rules | `(tactic| o_reads) => `(tactic| first | with_reducible refine rd_le ?_ | fail)
local macro_rules | `(tactic| o_reads) => `(tactic| first | with_reducible refine rd_lt ?_ | fail)
local macro_rules | `(tactic| o_reads) => `(tactic| first | with_reducible refine rd_neS ?_ | fail)
local macro_rules | `(tactic| o_reads) => `(tactic| first | with_reducible refine rd_neI2 ?_ | fail)
local macro_rules | `(tactic| o_reads) => `(tactic| first | with_reducible refine rd_eqS ?_ | fail)
local macro_rules | `(tactic| o_reads) => `(tactic| first | with_reducible refine rd_eqB ?_ | fail)
local macro_rules | `(tactic| o_reads) => `(tactic| first | with_reducible refine rd_eqI ?_ | fail)
local macro_rules | `(tactic| o_reads) => `(tactic| first | with_reducible refine rd_sub ?_ | fail)
local macro_rules | `(tactic| o_reads) => `(tactic| first | with_reducible refine rd_addI ?_ | fail)
local macro_rules | `(tactic| o_reads) => `(tactic| first | with_reducible refine g_tup rfl ?_ | fail)
local macro_rules | `(tactic| o_reads) => `(tactic| first | with_reducible refine gs_nil ?_ | fail)
local macro_rules | `(tactic| o_reads) => `(tactic| first | with_reducible refine gs_cons ?_ | fail)
local macro_rules | `(tactic| o_reads) => `(tactic| first | with_reducible refine g_name ?_ | fail)
local macro_rules | `(tactic| o_reads) => `(tactic| first | ((fail_if_success (with_reducible refine b_asgLst ?_)); (with_reducible refine b_asgG ?_)) | fail)
local macro_rules | `(tactic| o_reads) => `(tactic| first | ((with_reducible apply b_aug); exact rfl) | fail)
local macro_rules | `(tactic| o_reads) => `(tactic| first | with_reducible refine b_par ?_ | fail)
local macro_rules | `(tactic| o_reads) => `(tactic| first | with_reducible refine b_drop ?_ | fail)
local macro_rules | `(tactic| o_reads) => `(tactic| first | ((with_reducible apply b_ext rfl); exact rfl) | fail)
local macro_rules | `(tactic| o_reads) => `(tactic| first | ((with_reducible apply b_clr rfl); exact rfl) | fail)
local macro_rules | `(tactic| o_reads) => `(tactic| first | ((with_reducible apply b_rev rfl); exact rfl) | fail)
local macro_rules | `(tactic| o_reads) => `(tactic| first | ((with_reducible apply b_app rfl); exact rfl) | fail)
local macro_rules | `(tactic| o_reads) => `(tactic| first | with_reducible refine b_cont ?_ | fail)
local macro_rules | `(tactic| o_reads) => `(tactic| first | with_reducible refine b_brk ?_ | fail)
local macro_rules | `(tactic| o_reads) => `(tactic| first | with_reducible refine b_retN ?_ | fail)
local macro_rules | `(tactic| o_reads) => `(tactic| first | ((fail_if_success (with_reducible refine b_asgLst ?_)); (with_reducible refine b_asg ?_)) | fail)
local macro_rules | `(tactic| o_reads) => `(tactic| first | with_reducible refine b_next ?_ | fail)
local macro_rules | `(tactic| o_reads) => `(tactic| first | with_reducible refine b_ret ?_ | fail)
local macro_rules | `(tactic| o_reads) => `(tactic| first | with_reducible refine b_if ?_ | fail)
local macro_rules | `(tactic| o_reads) => `(tactic| first | with_reducible refine b_ifR ?_ ?_ | fail)
local macro_rules | `(tactic| o_reads) => `(tactic| first | with_reducible refine b_seq ?_ | fail)
local macro_rules | `(tactic| o_reads) => `(tactic| first | with_reducible refine ev_chain ?_ | fail)
local macro_rules | `(tactic| o_reads) => `(tactic| first | with_reducible refine ev_if ?_ | fail)
local macro_rules | `(tactic| o_reads) => `(tactic| first | with_reducible refine ev_notV ?_ | fail)
local macro_rules | `(tactic| o_reads) => `(tactic| first | with_reducible refine ev_orV ?_ | fail)
local macro_rules | `(tactic| o_reads) => `(tactic| first | with_reducible refine ev_andV ?_ | fail)
local macro_rules | `(tactic| o_reads) => `(tactic| first | with_reducible refine ev_lst ?_ | fail)
local macro_rules | `(tactic| o_reads) => `(tactic| first | with_reducible refine ev_tup ?_ | fail)
local macro_rules | `(tactic| o_reads) => `(tactic| first | with_reducible refine et_or ?_ | fail)
local macro_rules | `(tactic| o_reads) => `(tactic| first | with_reducible refine et_and ?_ | fail)
local macro_rules | `(tactic| o_reads) => `(tactic| first | with_reducible refine et_not ?_ | fail)
local macro_rules | `(tactic| o_reads) => `(tactic| first | with_reducible refine et_b ?_ | fail)
local macro_rules | `(tactic| o_reads) => `(tactic| first | with_reducible refine et_test ?_ | fail)
local macro_rules | `(tactic| o_reads) => `(tactic| first | with_reducible refine ev_cb ?_ | fail)
local macro_rules | `(tactic| o_reads) => `(tactic| first | with_reducible refine ev_un ?_ | fail)
local macro_rules | `(tactic| o_reads) => `(tactic| first | with_reducible refine ev_op ?_ | fail)
local macro_rules | `(tactic| o_reads) => `(tactic| first | ((with_reducible apply ev_lenO rfl); exact rfl) | fail)
local macro_rules | `(tactic| o_reads) => `(tactic| first | ((with_reducible apply ev_ixO rfl); exact rfl) | fail)
local macro_rules | `(tactic| o_reads) => `(tactic| first | with_reducible refine ea_cons ?_ | fail)
local macro_rules | `(tactic| o_reads) => `(tactic| first | with_reducible refine ea_nil ?_ | fail)
local macro_rules | `(tactic| o_reads) => `(tactic| first | with_reducible refine ev_ty ?_ | fail)
local macro_rules | `(tactic| o_reads) => `(tactic| first | with_reducible refine ev_non ?_ | fail)
local macro_rules | `(tactic| o_reads) => `(tactic| first | with_reducible refine ev_bl ?_ | fail)
local macro_rules | `(tactic| o_reads) => `(tactic| first | with_reducible refine ev_str ?_ | fail)
local macro_rules | `(tactic| o_reads) => `(tactic| first | with_reducible refine ev_int ?_ | fail)
local macro_rules | `(tactic| o_reads) => `(tactic| first | ((with_reducible apply ev_var); exact rfl) | fail)
local macro_rules | `(tactic| o_readsAll) => `(tactic| repeat' o_reads)
theorem pure_is_effect {K : PySem.W.Frag} {vs : List V} {H : Hp} {Q : VK} {E : XK} (h : lift K pureM (F_is_effect K) vs H Q E) : t_is_effect K E { nx := fun _ H' => Q .non H', rt := Q } (L2.start ["thing", "number"] vs) H :=
  lift_of (t := t_is_effect K) (fun C ds Φ hK hm hE hn ⟨x, e, ⟨l1, l2, a1, a2, b1, b2, t1, t2⟩, q⟩ => by
    subst hK hE e
    unfold t_is_effect
    refine b_seq (b_ifR ?_ ?_)
    · refine et_or (et_not (et_b (ev_cb (ea_cons (ev_var rfl (ea_cons (ev_ty (ea_nil (rc_isT (by simp [D.tyn, efD]) ⟨_, rfl, fun _ => ?_, fun z => (by cases z)⟩)))))))))
      exact et_test (ev_op (ev_cb (ea_cons (ev_var (x := efD x) rfl (ea_nil (rc_lenT (xs := [.int x.least, .int x.add, .int x.by_, .int x.top]) (ev_int (rd_neI2 ⟨_, rfl, decide_eq_false fun z => z rfl⟩))))))))
    refine b_seq (b_uT (b_forT rfl (ds := [.int x.least, .int x.add, .int x.by_, .int x.top]) (fun k δ => ∃ x1 : Sl, δ = [.d (efD x), x1]) (ev_var rfl rfl) ⟨_, rfl⟩ ?_ ?_))
    · rintro k d δ hd ⟨x1, rfl⟩
      obtain ⟨n, rfl, n1, n2⟩ : ∃ n : Int, d = .int n ∧ -(10 ^ 400) < n ∧ n < 10 ^ 400 := by
        have hm := List.mem_of_getElem? hd
        generalize (10 : Int) ^ 400 = G at *
        simp only [List.mem_cons, List.not_mem_nil, or_false] at hm
        rcases hm with rfl | rfl | rfl | rfl <;> exact ⟨_, rfl, by omega, by omega⟩
      refine g_name ?_
      generalize hG : (10 : Int) ^ 400 = G at *
      o_readsAll
    · rintro δ ⟨x1, rfl⟩
      o_readsAll
      have e : decide (1 ≤ x.top) = true := decide_eq_true t1
      rw [e]
      exact q) h
theorem pure_passed {K : PySem.W.Frag} {vs : List V} {H : Hp} {Q : VK} {E : XK} (h : lift K pureM (F_passed K) vs H Q E) : t_passed K E { nx := fun _ H' => Q .non H', rt := Q } (L2.start ["effect", "strength"] vs) H :=
  lift_of (t := t_passed K) (fun C ds Φ hK hm hE hn ⟨e, s, ed, ⟨he, h1, h2⟩, q⟩ => by
    subst hK hE ed
    unfold t_passed
    refine b_seq (b_never ?_)
    refine (EvT.mono (Φ := fun b => b = false) ?_ fun b e => ⟨e, b_next ?_⟩)
    · cases e with
      | none =>
        show EvT C _ (slots 2 [.non, .int s]) _
        o_readsAll
      | some x =>
        obtain ⟨g1, g2⟩ := he x rfl
        show EvT C _ (slots 2 [efD x, .int s]) _
        o_readsAll
    refine b_seq (b_never ?_)
    refine (EvT.mono (Φ := fun b => b = false) ?_ fun b e => ⟨e, b_next ?_⟩)
    · o_readsAll
    o_readsAll
    · rename_i z
      rw [if_pos z] at q
      exact q
    · rename_i z
      rw [if_neg z] at q
      exact ⟨fun x hx => (he x hx).2, q⟩) h
end Wn
end

section
/-! Worlds: mutable things by their addresses (World), beside trees that stay (D); contracts, expressions, statements over both. -/
namespace Wn
namespace Y
open PySem PySem.Spec PyProof.Rows L2

/-- a mutable thing: a list, a dict (locked or not), an instance; a caught exception -/
inductive MO1 where
  | lst (xs : List D) | dct (lk : Option (Obj × List (Key × V))) (kvs : List (Key × D)) | ins (C : Addr) (fs : List (Str × D)) | exc (C : Addr) (fs : List (Str × D))
abbrev W1 := Addr → Option MO1
/-- .. plain, or a hidden group of such, of which P holds -/
inductive MO where
  | p (o : MO1) | g (P : W1 → Prop)
abbrev World := Addr → Option MO
def World.set (w : World) (a : Addr) (o : MO) : World := fun b => if b = a then some o else w b
def World.del (w : World) (a : Addr) : World := fun b => if b = a then none else w b
section
variable {w : World} {a b : Addr} {o u : MO}
@[simp] theorem set_same : (w.set a o) a = some o := by unfold World.set; rw [if_pos rfl]
theorem set_ne (h : b ≠ a) : (w.set a o) b = w b := by unfold World.set; rw [if_neg h]
theorem del_same : (w.del a) a = none := by unfold World.del; rw [if_pos rfl]
theorem del_ne (h : b ≠ a) : (w.del a) b = w b := by unfold World.del; rw [if_neg h]
@[simp] theorem set_set : (w.set a o).set a u = w.set a u := by funext b; unfold World.set; split <;> rfl
theorem set_id (h : w a = some o) : w.set a o = w := by
  funext b
  by_cases e : b = a
  · rw [e, set_same, h]
  · rw [set_ne e]
theorem set_del (h : w a = none) : (w.set a o).del a = w := by
  funext b
  by_cases e : b = a
  · rw [e, del_same, h]
  · rw [del_ne e, set_ne e]
theorem set_comm (h : a ≠ b) : (w.set a o).set b u = (w.set b u).set a o := by
  funext c
  by_cases e : c = b
  · subst e; rw [set_same, set_ne (Ne.symm h), set_same]
  · rw [set_ne e]
    by_cases e2 : c = a
    · subst e2; rw [set_same, set_same]
    · rw [set_ne e2, set_ne e2, set_ne e]
theorem set_del_comm (h : a ≠ b) : (w.set a o).del b = (w.del b).set a o := by
  funext c
  by_cases e : c = b
  · subst e; rw [del_same, set_ne (Ne.symm h), del_same]
  · rw [del_ne e]
    by_cases e2 : c = a
    · subst e2; rw [set_same, set_same]
    · rw [set_ne e2, set_ne e2, del_ne e]
end
/-- a part of a world -/
def Sub' (w' w : World) : Prop := ∀ a o, w' a = some o → w a = some o
theorem Sub'.refl (w : World) : Sub' w w := fun _ _ h => h
theorem sub_del (w : World) (a : Addr) : Sub' (w.del a) w := fun b o h => by
  by_cases e : b = a
  · rw [e, del_same] at h; cases h
  · rw [del_ne e] at h; exact h

inductive DtK (K : PySem.W.Frag) (M : Addr → Prop) (H : Hp) : List (Key × V) → List (Key × D) → Prop
  | nil : DtK K M H [] []
  | cons {k : Key} {v : V} {d : D} {us : List (Key × V)} {ds : List (Key × D)} : Dt K M H v d → DtK K M H us ds → DtK K M H ((k, v) :: us) ((k, d) :: ds)
def CellOk (K : PySem.W.Frag) (M : Addr → Prop) (H : Hp) (a : Addr) : MO1 → Prop
  | .lst xs => ∃ vs, H a = some (.lst vs) ∧ DtL K M H vs xs
  | .dct none kvs => ∃ us, H a = some (.dK us) ∧ DtK K M H us kvs
  | .dct (some L) kvs => H a = some (.frz L.1 (.dK L.2)) ∧ DtK K M H L.2 kvs
  | .ins C fs => ∃ dx fv, H a = some (.ins C dx fv) ∧ DtF K M H fv fs
  | .exc C fs => ∃ (oe : Obj) (vs : Array Value), H a = some (.frz oe (.own a)) ∧ oe.cls = .ref C ∧ oe.data = .fields vs ∧ ((fs = [] ∧ oe.dict = none) ∨ ∃ dd fv, oe.dict = some dd ∧ H dd = some (.xd fv) ∧ ¬ M dd ∧ DtF K M H fv fs)

/-- how memory may go on: U may change, M stays avoided -/
structure Stp (M U : Addr → Prop) (H : Hp) (M' U' : Addr → Prop) (H' : Hp) : Prop where
  keep : ∀ a o, ¬ U a → H a = some o → H' a = some o
  live : ∀ a, H a ≠ none → H' a ≠ none
  m : ∀ a, M' a → M a ∨ H a = none
  u : ∀ a, U' a → U a ∨ H a = none
  hid : ∀ a, M a → ¬ U a → M' a
section
variable {K : PySem.W.Frag} {M U M' U' M2 U2 : Addr → Prop} {H H' H2 : Hp}
theorem Stp.refl : Stp M U H M U H := ⟨fun _ _ _ h => h, fun _ h => h, fun _ h => .inl h, fun _ h => .inl h, fun _ h _ => h⟩
theorem Stp.trans (al : ∀ a, M a → H a ≠ none) (x : Stp M U H M' U' H') (y : Stp M' U' H' M2 U2 H2) : Stp M U H M2 U2 H2 where
  keep := fun a o n h => y.keep a o (fun z => (x.u a z).elim n (fun e => by rw [e] at h; cases h)) (x.keep a o n h)
  live := fun a h => y.live a (x.live a h)
  m := fun a h => (y.m a h).elim (x.m a) fun e => .inr (Classical.byContradiction fun z => x.live a z e)
  u := fun a h => (y.u a h).elim (x.u a) fun e => .inr (Classical.byContradiction fun z => x.live a z e)
  hid := fun a h n => y.hid a (x.hid a h n) fun z => (x.u a z).elim n (al a h)
theorem Stp.ext (x : Stp M U H M' U' H') (hu : ∀ a, U a → M a) : Ext M H H' := fun a o n h => x.keep a o (fun z => n (hu a z)) h
theorem same_live (s : Same H H') (a : Addr) (h : H a ≠ none) : H' a ≠ none := by
  cases q : H a with
  | none => exact absurd q h
  | some o => rw [s a o q]; exact fun z => (by cases z)
theorem Stp.of_same (s : Same H H') : Stp M U H M U H' := ⟨fun a o _ h => s a o h, same_live s, fun _ h => .inl h, fun _ h => .inl h, fun _ h _ => h⟩
theorem rd_live {a : Addr} {u : HO} (h : Rd H a u) (e : H a = none) : False := by
  rcases h with h | ⟨o, h⟩
  · rw [e] at h; cases h
  · rw [e] at h; cases h
mutual
/-- a tree stays -/
theorem stp_dt (hu : ∀ a, U a → M a) (x : Stp M U H M' U' H') : ∀ {v : V} {d : D}, Dt K M H v d → Dt K M' H' v d
  | _, _, .non => .non
  | _, _, .bl b => .bl b
  | _, _, .int i => .int i
  | _, _, .str x => .str x
  | _, _, .adr a => .adr a
  | _, _, .ty n => .ty n
  | _, _, .lst n h l => .lst (fun z => (x.m _ z).elim n (fun e => by rw [e] at h; cases h)) (x.keep _ _ (fun z => n (hu _ z)) h) (stp_dtl hu x l)
  | _, _, .tup n h l => .tup (fun z => (x.m _ z).elim n (fun e => rd_live h e)) (rd_ext (x.ext hu) n h) (stp_dtl hu x l)
  | _, _, .ktup h l => .ktup h (stp_dtl hu x l)
  | _, _, .obj n h l => .obj (fun z => (x.m _ z).elim n (fun e => by rw [e] at h; cases h)) (x.keep _ _ (fun z => n (hu _ z)) h) (stp_dtf hu x l)
  | _, _, .dct n h l => .dct (fun z => (x.m _ z).elim n (fun e => by rw [e] at h; cases h)) (x.keep _ _ (fun z => n (hu _ z)) h) (stp_dtf hu x l)
  | _, _, .pin h => .pin (stp_dt hu x h)
theorem stp_dtl (hu : ∀ a, U a → M a) (x : Stp M U H M' U' H') : ∀ {vs : List V} {ds : List D}, DtL K M H vs ds → DtL K M' H' vs ds
  | _, _, .nil => .nil
  | _, _, .cons h t => .cons (stp_dt hu x h) (stp_dtl hu x t)
theorem stp_dtf (hu : ∀ a, U a → M a) (x : Stp M U H M' U' H') : ∀ {vs : List (Str × V)} {ds : List (Str × D)}, DtF K M H vs ds → DtF K M' H' vs ds
  | _, _, .nil => .nil
  | _, _, .cons h t => .cons (stp_dt hu x h) (stp_dtf hu x t)
end
theorem stp_dtk (hu : ∀ a, U a → M a) (x : Stp M U H M' U' H') : ∀ {vs : List (Key × V)} {ds : List (Key × D)}, DtK K M H vs ds → DtK K M' H' vs ds
  | _, _, .nil => .nil
  | _, _, .cons h t => .cons (stp_dt hu x h) (stp_dtk hu x t)
theorem DtK.to (hn : ∀ a, M' a → M a) (e : Ext M H H') : ∀ {us : List (Key × V)} {ds : List (Key × D)}, DtK K M H us ds → DtK K M' H' us ds
  | _, _, .nil => .nil
  | _, _, .cons h t => .cons (h.to hn e) (DtK.to hn e t)
theorem DtK.plus {p : Addr} (hp : H p = none) : ∀ {us : List (Key × V)} {ds : List (Key × D)}, DtK K M H us ds → DtK K (fun a => M a ∨ a = p) H us ds
  | _, _, .nil => .nil
  | _, _, .cons h t => .cons (h.plus hp) (DtK.plus hp t)
/-- a cell that is not written stays -/
theorem CellOk.to {a : Addr} {o : MO1} (hn : ∀ a, M' a → M a) (e : Ext M H H') (ha : ∀ u, H a = some u → H' a = some u) (h : CellOk K M H a o) : CellOk K M' H' a o := by
  cases o with
  | lst xs => obtain ⟨vs, h1, h2⟩ := h; exact ⟨vs, ha _ h1, h2.to hn e⟩
  | dct lk kvs =>
    cases lk with
    | some L => exact ⟨ha _ h.1, h.2.to hn e⟩
    | none =>
      obtain ⟨us, h1, h2⟩ := h
      exact ⟨us, ha _ h1, h2.to hn e⟩
  | ins C fs => obtain ⟨dx, fv, h1, h2⟩ := h; exact ⟨dx, fv, ha _ h1, h2.to hn e⟩
  | exc C fs =>
    obtain ⟨oe, vs, h1, h2, h3, h4⟩ := h
    refine ⟨oe, vs, ha _ h1, h2, h3, h4.imp id ?_⟩
    rintro ⟨dd, fv, g1, g2, g3, g4⟩
    exact ⟨dd, fv, g1, e _ _ g3 g2, fun z => g3 (hn _ z), g4.to hn e⟩
theorem CellOk.plus {a p : Addr} {o : MO1} (hp : H p = none) (h : CellOk K M H a o) : CellOk K (fun a => M a ∨ a = p) H a o := by
  cases o with
  | lst xs => obtain ⟨vs, h1, h2⟩ := h; exact ⟨vs, h1, h2.plus hp⟩
  | dct lk kvs =>
    cases lk with
    | some L => exact ⟨h.1, h.2.plus hp⟩
    | none => obtain ⟨us, h1, h2⟩ := h; exact ⟨us, h1, h2.plus hp⟩
  | ins C fs => obtain ⟨dx, fv, h1, h2⟩ := h; exact ⟨dx, fv, h1, h2.plus hp⟩
  | exc C fs =>
    obtain ⟨oe, vs, h1, h2, h3, h4⟩ := h
    refine ⟨oe, vs, h1, h2, h3, h4.imp id ?_⟩
    rintro ⟨dd, fv, g1, g2, g3, g4⟩
    exact ⟨dd, fv, g1, g2, fun z => z.elim g3 (fun q => by rw [q, hp] at g2; cases g2), g4.plus hp⟩
end

/-- the part of v that a holds -/
def part (v : W1) (ow : Addr → Option Addr) (a : Addr) : W1 := fun x => if ow x = some a then v x else none
structure WOk (K : PySem.W.Frag) (M U : Addr → Prop) (w : World) (H : Hp) : Prop where
  al : ∀ a, M a → H a ≠ none
  um : ∀ a, U a → M a
  ex : ∃ (v : W1) (ow : Addr → Option Addr), (∀ a o, v a = some o → U a ∧ CellOk K M H a o) ∧ (∀ a, w a ≠ none → U a ∧ ow a = some a) ∧
    (∀ a o, w a = some (.p o) → v a = some o) ∧ ∀ a P, w a = some (.g P) → P (part v ow a)
section
variable {K : PySem.W.Frag} {M U M' U' : Addr → Prop} {H H' : Hp} {w w' : World} {p : Addr} {o : MO1}
theorem WOk.sub (k : WOk K M U w H) (h : Sub' w' w) : WOk K M U w' H := by
  obtain ⟨al, um, v, ow, h1, h2, h3, h4⟩ := k
  refine ⟨al, um, v, ow, h1, fun a n => h2 a fun z => n ?_, fun a o e => h3 a o (h a _ e), fun a P e => h4 a P (h a _ e)⟩
  cases q : w' a with
  | none => rfl
  | some o => rw [h a o q] at z; cases z
theorem WOk.cell (k : WOk K M U w H) (h : w p = some (.p o)) : U p ∧ CellOk K M H p o := by
  obtain ⟨al, um, v, ow, h1, h2, h3, h4⟩ := k
  exact h1 p o (h3 p o h)
theorem WOk.same (k : WOk K M U w H) (s : Same H H') : WOk K M U w H' := by
  obtain ⟨al, um, v, ow, h1, h2, h3, h4⟩ := k
  exact ⟨(Stp.of_same (M := M) (U := U) s).live |> fun l a h => l a (al a h), um, v, ow, fun a o e => ⟨(h1 a o e).1, (h1 a o e).2.to (fun _ z => z) (.of_same s) (fun u => s a u)⟩, h2, h3, h4⟩
theorem WOk.free (k : WOk K M U w H) (h : H p = none) : w p = none := by
  obtain ⟨al, um, v, ow, h1, h2, h3, h4⟩ := k
  exact Classical.byContradiction fun z => al p (um p (h2 p z).1) h
theorem WOk.dom (k : WOk K M U w H) (h : w p ≠ none) : U p := by
  obtain ⟨al, um, v, ow, h1, h2, h3, h4⟩ := k
  exact (h2 p h).1
/-- a cell is written -/
theorem WOk.put {o' : MO1} {ho : HO} (k : WOk K M U w H) (h : w p = some (.p o)) (hn : CellOk K M (L2.upd H p ho) p o') : WOk K M U (w.set p (.p o')) (L2.upd H p ho) ∧ Stp M U H M U (L2.upd H p ho) := by
  obtain ⟨al, um, v, ow, h1, h2, h3, h4⟩ := k
  have up := (h1 p o (h3 p o h)).1
  have ex : Ext M H (L2.upd H p ho) := fun a u n e => by rw [upd_ne (fun z => n (by rw [z]; exact um p up))]; exact e
  have lv : ∀ a, H a ≠ none → L2.upd H p ho a ≠ none := fun a z => by
    by_cases e : a = p
    · rw [e, upd_same]; exact fun z => by cases z
    · rw [upd_ne e]; exact z
  refine ⟨⟨fun a z => lv a (al a z), um, fun a => if a = p then some o' else v a, ow, fun a u e => ?_, fun a z => ?_, fun a u e => ?_, fun a P e => ?_⟩, fun a u n e => ?_, lv, fun _ z => .inl z, fun _ z => .inl z, fun _ z _ => z⟩
  · by_cases q : a = p
    · simp only [q, if_true] at e
      cases e
      rw [q]
      exact ⟨up, hn⟩
    · simp only [q, if_false] at e
      exact ⟨(h1 a u e).1, (h1 a u e).2.to (fun _ z => z) ex (fun u' e' => by rw [upd_ne q]; exact e')⟩
  · by_cases q : a = p
    · rw [q]; exact ⟨up, (h2 p (by rw [h]; exact fun z => by cases z)).2⟩
    · rw [set_ne q] at z; exact h2 a z
  · by_cases q : a = p
    · rw [q, set_same] at e; cases e; simp [q]
    · rw [set_ne q] at e; simp only [q, if_false]; exact h3 a u e
  · have q : a ≠ p := fun z => by rw [z, set_same] at e; cases e
    rw [set_ne q] at e
    have : part (fun a => if a = p then some o' else v a) ow a = part v ow a := by
      funext x
      unfold part
      by_cases hx : x = p
      · rw [hx, if_neg, if_neg] <;> rw [(h2 p (by rw [h]; exact fun z => by cases z)).2] <;> exact fun z => q (Option.some.inj z).symm
      · simp only [hx, if_false]
    rw [this]
    exact h4 a P e
  · rw [upd_ne (fun z => n (by rw [z]; exact up))]; exact e
/-- a new cell -/
theorem WOk.new {o' : MO1} (k : WOk K M U w H) (s : Same H H') (hp : H p = none) (hp' : H' p ≠ none) (hn : CellOk K (fun a => M a ∨ a = p) H' p o') :
    WOk K (fun a => M a ∨ a = p) (fun a => U a ∨ a = p) (w.set p (.p o')) H' ∧ Stp M U H (fun a => M a ∨ a = p) (fun a => U a ∨ a = p) H' := by
  have wp := k.free hp
  have s0 := Stp.of_same (M := M) (U := U) s
  obtain ⟨al, um, v, ow, h1, h2, h3, h4⟩ := k
  have vp : v p = Option.none := Classical.byContradiction fun z => by
    obtain ⟨o, e⟩ := Option.ne_none_iff_exists'.mp z
    exact al p (um p (h1 p o e).1) hp
  refine ⟨⟨fun a z => z.elim (fun z => s0.live a (al a z)) (fun z => by rw [z]; exact hp'), fun a z => z.imp (um a) id, fun a => if a = p then some o' else v a, fun a => if a = p then some p else ow a, fun a u e => ?_, fun a z => ?_, fun a u e => ?_, fun a P e => ?_⟩,
    s0.keep, s0.live, fun a z => z.elim .inl (fun e => .inr (by rw [e]; exact hp)), fun a z => z.elim .inl (fun e => .inr (by rw [e]; exact hp)), fun a z _ => .inl z⟩
  · by_cases q : a = p
    · simp only [q, if_true] at e
      cases e
      rw [q]
      exact ⟨.inr rfl, hn⟩
    · simp only [q, if_false] at e
      exact ⟨.inl (h1 a u e).1, ((h1 a u e).2.plus hp).to (fun _ z => z) (.of_same s) (fun u' => s a u')⟩
  · by_cases q : a = p
    · rw [q]; exact ⟨.inr rfl, by simp⟩
    · rw [set_ne q] at z; simp only [q, if_false]; exact ⟨.inl (h2 a z).1, (h2 a z).2⟩
  · by_cases q : a = p
    · rw [q, set_same] at e; cases e; simp [q]
    · rw [set_ne q] at e; simp only [q, if_false]; exact h3 a u e
  · have q : a ≠ p := fun z => by rw [z, set_same] at e; cases e
    rw [set_ne q] at e
    have : part (fun a => if a = p then some o' else v a) (fun a => if a = p then some p else ow a) a = part v ow a := by
      funext x
      unfold part
      by_cases hx : x = p
      · rw [hx, vp]
        simp only [if_true]
        rw [if_neg (fun z => q (Option.some.inj z).symm)]
        split <;> rfl
      · simp only [hx, if_false]
    rw [this]
    exact h4 a P e
/-- a list is done: a tree -/
theorem WOk.frz (k : WOk K M U w H) (h : w p = some (.p o)) : WOk K (fun a => M a ∧ a ≠ p) (fun a => U a ∧ a ≠ p) (w.del p) H ∧ Stp M U H (fun a => M a ∧ a ≠ p) (fun a => U a ∧ a ≠ p) H := by
  obtain ⟨al, um, v, ow, h1, h2, h3, h4⟩ := k
  have up := (h1 p o (h3 p o h)).1
  have op := (h2 p (by rw [h]; exact fun z => by cases z)).2
  refine ⟨⟨fun a z => al a z.1, fun a z => ⟨um a z.1, z.2⟩, fun a => if a = p then Option.none else v a, ow, fun a u e => ?_, fun a z => ?_, fun a u e => ?_, fun a P e => ?_⟩, fun a u n e => e, fun _ z => z, fun a z => .inl z.1, fun a z => .inl z.1, fun a z n => ⟨z, fun e => n (by rw [e]; exact up)⟩⟩
  · by_cases q : a = p
    · simp only [q, if_true] at e; cases e
    · simp only [q, if_false] at e
      exact ⟨⟨(h1 a u e).1, q⟩, (h1 a u e).2.to (fun _ z => z.1) (Ext.refl _ _) (fun _ z => z)⟩
  · by_cases q : a = p
    · rw [q, del_same] at z; exact absurd rfl z
    · rw [del_ne q] at z; exact ⟨⟨(h2 a z).1, q⟩, (h2 a z).2⟩
  · by_cases q : a = p
    · rw [q, del_same] at e; cases e
    · rw [del_ne q] at e; simp only [q, if_false]; exact h3 a u e
  · have q : a ≠ p := fun z => by rw [z, del_same] at e; cases e
    rw [del_ne q] at e
    have : part (fun a => if a = p then Option.none else v a) ow a = part v ow a := by
      funext x
      unfold part
      by_cases hx : x = p
      · rw [hx, op, if_neg (fun z => q (Option.some.inj z).symm), if_neg (fun z => q (Option.some.inj z).symm)]
      · simp only [hx, if_false]
    rw [this]
    exact h4 a P e
/-- hidden beside: an address that is avoided, and kept -/
theorem WOk.hide (k : WOk K M U w H) (hp : H p = none) (s : Same H H') (hp' : H' p ≠ none) : WOk K (fun a => M a ∨ a = p) U w H' ∧ Stp M U H (fun a => M a ∨ a = p) U H' := by
  have s0 := Stp.of_same (M := M) (U := U) s
  obtain ⟨al, um, v, ow, h1, h2, h3, h4⟩ := k
  exact ⟨⟨fun a z => z.elim (fun z => s0.live a (al a z)) (fun z => by rw [z]; exact hp'), fun a z => .inl (um a z), v, ow, fun a u e => ⟨(h1 a u e).1, ((h1 a u e).2.plus hp).to (fun _ z => z) (.of_same s) (fun u' => s a u')⟩, h2, h3, h4⟩,
    s0.keep, s0.live, fun a z => z.elim .inl (fun e => .inr (by rw [e]; exact hp)), fun a z => .inl z, fun a z _ => .inl z⟩
end
end Y
end Wn
end

section
/-! Worlds: contexts, environments, contracts, expressions. -/
namespace Wn
namespace Y
open PySem PySem.Spec PyProof.Rows L2

/-- a raised exception: its class, its fields, the world behind it -/
abbrev Ex := Addr → List (Str × D) → World → Prop
abbrev FSpec := List D → World → (D → World → Prop) → Ex → Prop
def noX : Ex := fun _ _ _ => False
def Takes (K : PySem.W.Frag) (M0 U0 : Addr → Prop) (H0 : Hp) (X : Ex) (E : XK) : Prop := ∀ C fs w' M' U' H', X C fs w' → Stp M0 U0 H0 M' U' H' → WOk K M' U' w' H' →
  (∀ d fv, H' d = some (.xd fv) → H0 d = none → ¬ M' d → DtF K M' H' fv fs → fs ≠ [] → E (.ref C) (some d) H') ∧ (fs = [] → E (.ref C) none H')
theorem Takes.no {K : PySem.W.Frag} {M0 U0 : Addr → Prop} {H0 : Hp} {E : XK} : Takes K M0 U0 H0 noX E := fun _ _ _ _ _ _ h => h.elim
/-- a contract over trees and worlds, as a def's promise -/
def lift (K : PySem.W.Frag) (F : FSpec) : Sp := fun vs H Q E => ∃ (M U : Addr → Prop) (ds : List D) (w : World) (X : Ex) (Φ : D → World → Prop), WOk K M U w H ∧ DtL K M H vs ds ∧ Takes K M U H X E ∧ F ds w Φ X ∧
  ∀ d v M' U' w' H', Φ d w' → Stp M U H M' U' H' → WOk K M' U' w' H' → Dt K M' H' v d → Q v H'
theorem lift_len {K : PySem.W.Frag} {F : FSpec} {n : Nat} (h : ∀ ds w Φ X, F ds w Φ X → ds.length = n) : ∀ vs H Q E, lift K F vs H Q E → vs.length = n :=
  fun vs H Q E ⟨M, U, ds, w, X, Φ, _, d, _, f, _⟩ => d.length.trans (h _ _ _ _ f)

inductive Sl where
  | no | d (x : D)
structure Ctx where
  K : PySem.W.Frag
  M0 : Addr → Prop
  U0 : Addr → Prop
  H0 : Hp
  X : Ex
  E : XK
structure Ctx.Ok (C : Ctx) : Prop where
  al : ∀ a, C.M0 a → C.H0 a ≠ none
  um : ∀ a, C.U0 a → C.M0 a
  tx : Takes C.K C.M0 C.U0 C.H0 C.X C.E
def SlOk (K : PySem.W.Frag) (M : Addr → Prop) (H : Hp) (v : Option V) : Sl → Prop
  | .no => True
  | .d x => ∃ u, v = some u ∧ Dt K M H u x
structure Env (C : Ctx) (fz : List (V × D)) (M U : Addr → Prop) (δ : List Sl) (w : World) (σ : L2.St) (H : Hp) : Prop where
  ok : C.Ok
  ln : σ.length = δ.length
  sl : ∀ (i : Nat) s, δ[i]? = some s → ∃ v, σ[i]? = some v ∧ SlOk C.K M H v s
  fzs : ∀ p ∈ fz, Dt C.K M H p.1 p.2
  st : Stp C.M0 C.U0 C.H0 M U H
  wk : WOk C.K M U w H
section
variable {C : Ctx} {fz : List (V × D)} {M U M' U' : Addr → Prop} {δ : List Sl} {w w' : World} {σ : L2.St} {H H' : Hp}
theorem Env.stp (en : Env C fz M U δ w σ H) (x : Stp M U H M' U' H') (k : WOk C.K M' U' w' H') : Env C fz M' U' δ w' σ H' where
  ok := en.ok
  ln := en.ln
  sl := fun i s h => by
    obtain ⟨v, h1, h2⟩ := en.sl i s h
    refine ⟨v, h1, ?_⟩
    cases s with
    | no => trivial
    | d y =>
      obtain ⟨u, h3, h4⟩ := h2
      exact ⟨u, h3, stp_dt en.wk.um x h4⟩
  fzs := fun p h => stp_dt en.wk.um x (en.fzs p h)
  st := en.st.trans en.ok.al x
  wk := k
theorem Env.set {i : Nat} {u : V} {y : D} (en : Env C fz M U δ w σ H) (h : Dt C.K M H u y) : Env C fz M U (δ.set i (.d y)) w (σ.set i (some u)) H where
  ok := en.ok
  ln := by rw [List.length_set, List.length_set]; exact en.ln
  sl := fun j t hj => by
    rcases set_cases hj with ⟨rfl, rfl⟩ | ⟨n, hj⟩
    · have hl := lt_of_some hj
      rw [List.length_set] at hl
      exact ⟨some u, List.getElem?_set_self (by rw [en.ln]; exact hl), u, rfl, h⟩
    · obtain ⟨v, h1, h2⟩ := en.sl j t hj
      exact ⟨v, by rw [List.getElem?_set_ne (Ne.symm n)]; exact h1, h2⟩
  fzs := en.fzs
  st := en.st
  wk := en.wk
theorem Env.setNo {i : Nat} {v : Option V} (en : Env C fz M U δ w σ H) : Env C fz M U (δ.set i .no) w (σ.set i v) H where
  ok := en.ok
  ln := by rw [List.length_set, List.length_set]; exact en.ln
  sl := fun j t hj => by
    rcases set_cases hj with ⟨rfl, rfl⟩ | ⟨n, hj⟩
    · have hl := lt_of_some hj
      rw [List.length_set] at hl
      exact ⟨v, List.getElem?_set_self (by rw [en.ln]; exact hl), trivial⟩
    · obtain ⟨v, h1, h2⟩ := en.sl j t hj
      exact ⟨v, by rw [List.getElem?_set_ne (Ne.symm n)]; exact h1, h2⟩
  fzs := en.fzs
  st := en.st
  wk := en.wk
theorem Env.fz0 {q : V × D} (en : Env C (q :: fz) M U δ w σ H) : Env C fz M U δ w σ H := ⟨en.ok, en.ln, en.sl, fun p h => en.fzs p (List.mem_cons_of_mem _ h), en.st, en.wk⟩
theorem Env.fz1 {v : V} {d : D} (en : Env C fz M U δ w σ H) (h : Dt C.K M H v d) : Env C ((v, d) :: fz) M U δ w σ H := ⟨en.ok, en.ln, en.sl, fun p hp => by
  rcases List.mem_cons.mp hp with e | hp
  · rw [e]; exact h
  · exact en.fzs p hp, en.st, en.wk⟩
theorem Env.fzd {v : V} {d : D} (en : Env C ((v, d) :: fz) M U δ w σ H) : Dt C.K M H v d := en.fzs (v, d) (List.mem_cons_self ..)
theorem Env.tr (en : Env C fz M U δ w σ H) {M2 U2 : Addr → Prop} {H2 : Hp} (x : Stp M U H M' U' H') (y : Stp M' U' H' M2 U2 H2) : Stp M U H M2 U2 H2 := x.trans en.wk.al y
end

/-! ### judgements -/
section
variable (C : Ctx)
def EvD (te : TE) (δ : List Sl) (w : World) (Φ : D → World → Prop) : Prop := ∀ (fz : List (V × D)) (M U : Addr → Prop) (σ : L2.St) (H : Hp), Env C fz M U δ w σ H → ∀ Q : VK,
  (∀ d v M' U' w' H', Φ d w' → Stp M U H M' U' H' → WOk C.K M' U' w' H' → Dt C.K M' H' v d → Q v H') → te σ H Q
def EvA (ta : TA) (δ : List Sl) (w : World) (Φ : List D → World → Prop) : Prop := ∀ (fz : List (V × D)) (M U : Addr → Prop) (σ : L2.St) (H : Hp), Env C fz M U δ w σ H → ∀ Q : List V → Hp → Prop,
  (∀ ds vs M' U' w' H', Φ ds w' → Stp M U H M' U' H' → WOk C.K M' U' w' H' → DtL C.K M' H' vs ds → Q vs H') → ta σ H Q
def EvT (tt : TT) (δ : List Sl) (w : World) (Φ : Bool → World → Prop) : Prop := ∀ (fz : List (V × D)) (M U : Addr → Prop) (σ : L2.St) (H : Hp), Env C fz M U δ w σ H → ∀ Q : Bool → Hp → Prop,
  (∀ b M' U' w' H', Φ b w' → Stp M U H M' U' H' → WOk C.K M' U' w' H' → Q b H') → tt σ H Q
def EvO (to : TO) (δ : List Sl) (w : World) (Φ : Option Int → World → Prop) : Prop := ∀ (fz : List (V × D)) (M U : Addr → Prop) (σ : L2.St) (H : Hp), Env C fz M U δ w σ H → ∀ Q : Option Int → Hp → Prop,
  (∀ b M' U' w' H', Φ b w' → Stp M U H M' U' H' → WOk C.K M' U' w' H' → Q b H') → to σ H Q
end
/-- what an operation by values makes: over trees and the world -/
abbrev VR := Hp → VK → Prop
def RV (K : PySem.W.Frag) (M U : Addr → Prop) (H : Hp) (r : VR) (Φ : D → World → Prop) : Prop := ∀ Q : VK, (∀ d v M' U' w' H', Φ d w' → Stp M U H M' U' H' → WOk K M' U' w' H' → Dt K M' H' v d → Q v H') → r H Q
def RY (K : PySem.W.Frag) (r : R2) (a b : D) (w : World) (Φ : D → World → Prop) : Prop := ∀ (M U : Addr → Prop) (x y : V) (H : Hp), WOk K M U w H → Dt K M H x a → Dt K M H y b → RV K M U H (r x y) Φ
def RUY (K : PySem.W.Frag) (r : V → Hp → VK → Prop) (a : D) (w : World) (Φ : D → World → Prop) : Prop := ∀ (M U : Addr → Prop) (x : V) (H : Hp), WOk K M U w H → Dt K M H x a → RV K M U H (r x) Φ
def RCY (K : PySem.W.Frag) (r : List V → Hp → VK → Prop) (as : List D) (w : World) (Φ : D → World → Prop) : Prop := ∀ (M U : Addr → Prop) (xs : List V) (H : Hp), WOk K M U w H → DtL K M H xs as → RV K M U H (r xs) Φ
def RMY (K : PySem.W.Frag) (r : V → List V → Hp → VK → Prop) (a : D) (as : List D) (w : World) (Φ : D → World → Prop) : Prop := ∀ (M U : Addr → Prop) (x : V) (xs : List V) (H : Hp), WOk K M U w H → Dt K M H x a → DtL K M H xs as → RV K M U H (r x xs) Φ
section
variable {K : PySem.W.Frag} {w : World} {Φ : D → World → Prop} {a b : D}
theorem ry {r : R2} (h : RD K r a b fun d => Φ d w) : RY K r a b w Φ := fun M U x y H k d1 d2 Q q => h M x y H k.al d1 d2 Q fun d v H' p s d3 => q d v M U w H' p (.of_same s) (k.same s) d3
theorem ruy {r : V → Hp → VK → Prop} (h : RU K r a fun d => Φ d w) : RUY K r a w Φ := fun M U x H k d1 Q q => h M x H k.al d1 Q fun d v H' p s d3 => q d v M U w H' p (.of_same s) (k.same s) d3
theorem rcy {r : List V → Hp → VK → Prop} {as : List D} (h : RC K r as fun d => Φ d w) : RCY K r as w Φ := fun M U x H k d1 Q q => h M x H k.al d1 Q fun d v H' p s d3 => q d v M U w H' p (.of_same s) (k.same s) d3
end
section
variable {C : Ctx} {δ : List Sl} {w : World} {te ta tb tc : TE} {tt tu : TT} {tr : TA} {Φ Ψ : D → World → Prop}
theorem EvD.mono (h : EvD C te δ w Φ) (i : ∀ d w', Φ d w' → Ψ d w') : EvD C te δ w Ψ := fun fz M U σ H en Q k => h fz M U σ H en Q fun d v M' U' w' H' p => k d v M' U' w' H' (i d w' p)
theorem EvT.mono {Φ Ψ : Bool → World → Prop} (h : EvT C tt δ w Φ) (i : ∀ d w', Φ d w' → Ψ d w') : EvT C tt δ w Ψ := fun fz M U σ H en Q k => h fz M U σ H en Q fun d M' U' w' H' p => k d M' U' w' H' (i d w' p)
theorem EvA.mono {Φ Ψ : List D → World → Prop} (h : EvA C tr δ w Φ) (i : ∀ d w', Φ d w' → Ψ d w') : EvA C tr δ w Ψ := fun fz M U σ H en Q k => h fz M U σ H en Q fun d v M' U' w' H' p => k d v M' U' w' H' (i d w' p)
/-- a part of the world is forgotten -/
theorem EvD.sub (h : EvD C te δ w fun d w1 => ∃ w2, Sub' w2 w1 ∧ Φ d w2) : EvD C te δ w Φ := fun fz M U σ H en Q k => h fz M U σ H en Q fun d v M' U' w' H' ⟨w2, s, p⟩ x wk => k d v M' U' w2 H' p x (wk.sub s)
theorem EvD.sub0 {w0 : World} (s : Sub' w0 w) (h : EvD C te δ w0 Φ) : EvD C te δ w Φ := fun fz M U σ H en Q k => h fz M U σ H ⟨en.ok, en.ln, en.sl, en.fzs, en.st, en.wk.sub s⟩ Q k
theorem ev_v {v : V} {d : D} (hd : ∀ M H, Dt C.K M H v d) (q : Φ d w) : EvD C (tC v) δ w Φ := fun fz M U σ H en Q k => k d v M U w H q .refl en.wk (hd M H)
theorem ev_var {i : Nat} {x : D} (h : δ[i]? = some (.d x)) (q : Φ x w) : EvD C (tVar i) δ w Φ := fun fz M U σ H en Q k => by
  obtain ⟨v, h1, u, rfl, h2⟩ := en.sl i _ h
  exact ⟨u, h1, k x u M U w H q .refl en.wk h2⟩
theorem ev_int {i : Int} (q : Φ (.int i) w) : EvD C (tC (.int i)) δ w Φ := ev_v (fun _ _ => .int i) q
theorem ev_str {x : Str} (q : Φ (.str x) w) : EvD C (tC (.str x)) δ w Φ := ev_v (fun _ _ => .str x) q
theorem ev_bl {b : Bool} (q : Φ (.bl b) w) : EvD C (tC (.bl b)) δ w Φ := ev_v (fun _ _ => .bl b) q
theorem ev_non (q : Φ .non w) : EvD C (tC .non) δ w Φ := ev_v (fun _ _ => .non) q
theorem ev_ty {n : String} (q : Φ (.ty n) w) : EvD C (tC (.ty n)) δ w Φ := ev_v (fun _ _ => .ty n) q
theorem ev_adr {a : Addr} (q : Φ (.adr a) w) : EvD C (tC (.ref a)) δ w Φ := ev_v (fun _ _ => .adr a) q
theorem ev_ktup {a : Addr} {vs : List V} {ds : List D} (h : ∀ H', SqT C.K H' a vs) (hd : ∀ M H, DtL C.K M H vs ds) (q : Φ (.tup ds) w) : EvD C (tC (.ref a)) δ w Φ := ev_v (fun M H => .ktup h (hd M H)) q
theorem ev_op {r : R2} (h : EvD C ta δ w fun a w1 => EvD C tb δ w1 fun b w2 => RY C.K r a b w2 Φ) : EvD C (tOp r ta tb) δ w Φ := fun fz M U σ H en Q k =>
  h fz M U σ H en _ fun a x M1 U1 w1 H1 h1 x1 k1 d1 => h1 fz M1 U1 σ H1 (en.stp x1 k1) _ fun b y M2 U2 w2 H2 h2 x2 k2 d2 => h2 M2 U2 x y H2 k2 (stp_dt k1.um x2 d1) d2 Q fun d v M3 U3 w3 H3 p x3 => k d v M3 U3 w3 H3 p ((en.tr x1 x2).trans en.wk.al x3)
theorem ev_un {r : V → Hp → VK → Prop} (h : EvD C ta δ w fun a w1 => RUY C.K r a w1 Φ) : EvD C (tUn r ta) δ w Φ := fun fz M U σ H en Q k =>
  h fz M U σ H en _ fun a x M1 U1 w1 H1 h1 x1 k1 d1 => h1 M1 U1 x H1 k1 d1 Q fun d v M3 U3 w3 H3 p x3 => k d v M3 U3 w3 H3 p (en.tr x1 x3)
theorem ea_nil {Φ : List D → World → Prop} (q : Φ [] w) : EvA C tNil δ w Φ := fun fz M U σ H en Q k => k [] [] M U w H q .refl en.wk .nil
theorem ea_cons {Φ : List D → World → Prop} (h : EvD C te δ w fun d w1 => EvA C tr δ w1 fun ds w2 => Φ (d :: ds) w2) : EvA C (tCons te tr) δ w Φ := fun fz M U σ H en Q k =>
  h fz M U σ H en _ fun a x M1 U1 w1 H1 h1 x1 k1 d1 => h1 fz M1 U1 σ H1 (en.stp x1 k1) _ fun ds vs M2 U2 w2 H2 h2 x2 k2 d2 => k (a :: ds) (x :: vs) M2 U2 w2 H2 h2 (en.tr x1 x2) k2 (.cons (stp_dt k1.um x2 d1) d2)
theorem ev_tup (h : EvA C tr δ w fun ds w1 => ds.length ≤ 100000 ∧ Φ (.tup ds) w1) : EvD C (tTup tr) δ w Φ := fun fz M U σ H en Q k =>
  h fz M U σ H en _ fun ds vs M1 U1 w1 H1 ⟨hl, h1⟩ x1 k1 d1 => ⟨by rw [d1.length]; exact Nat.le_trans hl (by decide), fun p hp =>
    have s := same_new (o := .tup vs) hp
    k (.tup ds) (.ref p) M1 U1 w1 _ h1 (en.tr x1 (.of_same s)) (k1.same s) (.tup (fun z => k1.al p z hp) (.inl upd_same) (d1.ext (.of_same s)))⟩
/-- a new thing at p -/
theorem new_cell {M U : Addr → Prop} {H : Hp} {p : Addr} {vs : List V} {ds : List D} {K : PySem.W.Frag} (k : WOk K M U w H) (hp : H p = none) (d : DtL K M H vs ds) :
    WOk K (fun a => M a ∨ a = p) (fun a => U a ∨ a = p) (w.set p (.p (.lst ds))) (L2.upd H p (.lst vs)) ∧ Stp M U H (fun a => M a ∨ a = p) (fun a => U a ∨ a = p) (L2.upd H p (.lst vs)) :=
  k.new (same_new hp) hp (by rw [upd_same]; exact fun z => by cases z) ⟨vs, upd_same, (d.plus hp).ext (.of_same (same_new hp))⟩
/-- [..], under way -/
theorem en_lst (h : EvA C tr δ w fun ds w1 => ds.length ≤ 100000 ∧ ∀ p, w1 p = none → Φ (.adr p) (w1.set p (.p (.lst ds)))) : EvD C (tLst tr) δ w Φ := fun fz M U σ H en Q k =>
  h fz M U σ H en _ fun ds vs M1 U1 w1 H1 ⟨hl, h1⟩ x1 k1 d1 => ⟨by rw [d1.length]; exact Nat.le_trans hl (by decide), fun p hp =>
    have ⟨k2, x2⟩ := new_cell k1 hp d1
    k (.adr p) (.ref p) _ _ _ _ (h1 p (k1.free hp)) (en.tr x1 x2) k2 (.adr p)⟩
/-- a list under way, as a tree -/
theorem ev_frz (h : EvD C te δ w fun d w1 => ∃ p xs, d = .adr p ∧ w1 p = some (.p (.lst xs)) ∧ Φ (.lst xs) (w1.del p)) : EvD C te δ w Φ := fun fz M U σ H en Q k =>
  h fz M U σ H en _ fun d v M1 U1 w1 H1 ⟨p, xs, e, hp, q⟩ x1 k1 d1 => by
    subst e
    cases d1
    obtain ⟨k2, x2⟩ := k1.frz hp
    obtain ⟨_, vs, h1, h2⟩ := k1.cell hp
    exact k (.lst xs) (.ref p) _ _ _ H1 q (en.tr x1 x2) k2 (.lst (fun z => z.2 rfl) h1 (h2.to (fun _ z => z.1) (Ext.refl _ _)))
/-- an instance under way, as a tree -/
theorem ev_frzI (h : EvD C te δ w fun d w1 => ∃ p c fs, d = .adr p ∧ w1 p = some (.p (.ins c fs)) ∧ Φ (.obj c fs) (w1.del p)) : EvD C te δ w Φ := fun fz M U σ H en Q k =>
  h fz M U σ H en _ fun d v M1 U1 w1 H1 ⟨p, c, fs, e, hp, q⟩ x1 k1 d1 => by
    subst e
    cases d1
    obtain ⟨k2, x2⟩ := k1.frz hp
    obtain ⟨_, dx, fv, h1, h2⟩ := k1.cell hp
    exact k (.obj c fs) (.ref p) _ _ _ H1 q (en.tr x1 x2) k2 (.obj (fun z => z.2 rfl) h1 (h2.to (fun _ z => z.1) (Ext.refl _ _)))
/-- a new list that is done at once -/
theorem ev_new {xsP : List D → World → Prop} (h : ∀ Ψ : D → World → Prop, (∀ xs w1, xsP xs w1 → ∀ p, w1 p = none → Ψ (.adr p) (w1.set p (.p (.lst xs)))) → EvD C te δ w Ψ) (q : ∀ xs w1, xsP xs w1 → Φ (.lst xs) w1) : EvD C te δ w Φ :=
  ev_frz (h _ fun xs w1 hx p hp => ⟨p, xs, rfl, set_same, by rw [set_del hp]; exact q xs w1 hx⟩)
theorem ev_lst (h : EvA C tr δ w fun ds w1 => ds.length ≤ 100000 ∧ Φ (.lst ds) w1) : EvD C (tLst tr) δ w Φ :=
  ev_frz (en_lst (h.mono fun ds w1 ⟨hl, q⟩ => ⟨hl, fun p hp => ⟨p, ds, rfl, set_same, by rw [set_del hp]; exact q⟩⟩))
theorem ev_if (h : EvT C tt δ w fun b w1 => (b = true → EvD C ta δ w1 Φ) ∧ (b = false → EvD C tb δ w1 Φ)) : EvD C (tIf tt ta tb) δ w Φ := fun fz M U σ H en Q k =>
  h fz M U σ H en _ fun b M1 U1 w1 H1 hb x1 k1 => by
    cases b with
    | true => exact hb.1 rfl fz M1 U1 σ H1 (en.stp x1 k1) Q fun d v M2 U2 w2 H2 p x2 => k d v M2 U2 w2 H2 p (en.tr x1 x2)
    | false => exact hb.2 rfl fz M1 U1 σ H1 (en.stp x1 k1) Q fun d v M2 U2 w2 H2 p x2 => k d v M2 U2 w2 H2 p (en.tr x1 x2)
theorem ev_andV (h : EvD C ta δ w fun a w1 => ∃ b, a = .bl b ∧ (b = true → EvD C tb δ w1 Φ) ∧ (b = false → Φ (.bl false) w1)) : EvD C (tAndV ta tb) δ w Φ := fun fz M U σ H en Q k =>
  h fz M U σ H en _ fun a x M1 U1 w1 H1 hb x1 k1 d1 => by
    obtain ⟨b, rfl, h1, h2⟩ := hb
    cases d1
    refine ⟨b, rfl, ?_⟩
    cases b with
    | true => exact h1 rfl fz M1 U1 σ H1 (en.stp x1 k1) Q fun d v M2 U2 w2 H2 p x2 => k d v M2 U2 w2 H2 p (en.tr x1 x2)
    | false => exact k _ _ M1 U1 w1 H1 (h2 rfl) x1 k1 (.bl false)
theorem ev_orV (h : EvD C ta δ w fun a w1 => ∃ b, a = .bl b ∧ (b = false → EvD C tb δ w1 Φ) ∧ (b = true → Φ (.bl true) w1)) : EvD C (tOrV ta tb) δ w Φ := fun fz M U σ H en Q k =>
  h fz M U σ H en _ fun a x M1 U1 w1 H1 hb x1 k1 d1 => by
    obtain ⟨b, rfl, h1, h2⟩ := hb
    cases d1
    refine ⟨b, rfl, ?_⟩
    cases b with
    | false => exact h1 rfl fz M1 U1 σ H1 (en.stp x1 k1) Q fun d v M2 U2 w2 H2 p x2 => k d v M2 U2 w2 H2 p (en.tr x1 x2)
    | true => exact k _ _ M1 U1 w1 H1 (h2 rfl) x1 k1 (.bl true)
theorem ev_notV (h : EvD C ta δ w fun a w1 => ∃ b, a = .bl b ∧ Φ (.bl (!b)) w1) : EvD C (tNotV ta) δ w Φ := fun fz M U σ H en Q k =>
  h fz M U σ H en _ fun a x M1 U1 w1 H1 hb x1 k1 d1 => by
    obtain ⟨b, rfl, h1⟩ := hb
    cases d1
    exact ⟨b, rfl, k _ _ M1 U1 w1 H1 h1 x1 k1 (.bl _)⟩
theorem ev_chain {r r' : R2} (h : EvD C ta δ w fun a w1 => EvD C tb δ w1 fun b w2 => RY C.K r a b w2 fun z w3 => ∃ k, z = .bl k ∧ (k = true → EvD C tc δ w3 fun c w4 => RY C.K r' b c w4 Φ) ∧ (k = false → Φ (.bl false) w3)) : EvD C (tChain r r' ta tb tc) δ w Φ := fun fz M U σ H en Q k =>
  h fz M U σ H en _ fun a x M1 U1 w1 H1 h1 x1 k1 d1 => h1 fz M1 U1 σ H1 (en.stp x1 k1) _ fun b y M2 U2 w2 H2 h2 x2 k2 d2 => h2 M2 U2 x y H2 k2 (stp_dt k1.um x2 d1) d2 _ fun z v M3 U3 w3 H3 ⟨kk, ez, h3, h4⟩ x3 k3 d3 => by
    subst ez
    cases d3
    refine ⟨kk, rfl, ?_⟩
    have x123 := en.tr (en.tr x1 x2) x3
    cases kk with
    | true => exact h3 rfl fz M3 U3 σ H3 (en.stp x123 k3) _ fun c u M4 U4 w4 H4 h5 x4 k4 d4 => h5 M4 U4 y u H4 k4 (stp_dt k3.um x4 (stp_dt k2.um x3 d2)) d4 Q fun d v M5 U5 w5 H5 p x5 => k d v M5 U5 w5 H5 p (en.tr (en.tr x123 x4) x5)
    | false => exact k _ _ M3 U3 w3 H3 (h4 rfl) x123 k3 (.bl false)
/-! tests -/
theorem et_test {Φ : Bool → World → Prop} (h : EvD C te δ w fun d w1 => ∃ b, d = .bl b ∧ Φ b w1) : EvT C (tTest te) δ w Φ := fun fz M U σ H en Q k =>
  h fz M U σ H en _ fun d v M1 U1 w1 H1 hb x1 k1 d1 => by
    obtain ⟨b, rfl, h1⟩ := hb
    cases d1
    exact ⟨b, rfl, k b M1 U1 w1 H1 h1 x1 k1⟩
theorem et_b {Φ : Bool → World → Prop} (h : EvD C te δ w fun d w1 => ∃ b, d = .bl b ∧ Φ b w1) : EvT C (tB te) δ w Φ := et_test h
theorem et_and {Φ : Bool → World → Prop} (h : EvT C tt δ w fun b w1 => (b = true → EvT C tu δ w1 Φ) ∧ (b = false → Φ false w1)) : EvT C (tAnd tt tu) δ w Φ := fun fz M U σ H en Q k =>
  h fz M U σ H en _ fun b M1 U1 w1 H1 hb x1 k1 => by
    cases b with
    | true => exact hb.1 rfl fz M1 U1 σ H1 (en.stp x1 k1) Q fun d M2 U2 w2 H2 p x2 => k d M2 U2 w2 H2 p (en.tr x1 x2)
    | false => exact k false M1 U1 w1 H1 (hb.2 rfl) x1 k1
theorem et_or {Φ : Bool → World → Prop} (h : EvT C tt δ w fun b w1 => (b = false → EvT C tu δ w1 Φ) ∧ (b = true → Φ true w1)) : EvT C (tOr tt tu) δ w Φ := fun fz M U σ H en Q k =>
  h fz M U σ H en _ fun b M1 U1 w1 H1 hb x1 k1 => by
    cases b with
    | false => exact hb.1 rfl fz M1 U1 σ H1 (en.stp x1 k1) Q fun d M2 U2 w2 H2 p x2 => k d M2 U2 w2 H2 p (en.tr x1 x2)
    | true => exact k true M1 U1 w1 H1 (hb.2 rfl) x1 k1
theorem et_not {Φ : Bool → World → Prop} (h : EvT C tt δ w fun b w1 => Φ (!b) w1) : EvT C (tNot tt) δ w Φ := fun fz M U σ H en Q k => h fz M U σ H en _ fun b M1 U1 w1 H1 hb => k _ M1 U1 w1 H1 hb
theorem et_yes {Φ : Bool → World → Prop} (h : Φ true w) : EvT C tYes δ w Φ := fun fz M U σ H en Q k => k true M U w H h .refl en.wk
/-! built-ins by values -/
theorem ev_cb {r : List V → Hp → VK → Prop} (h : EvA C tr δ w fun ds w1 => RCY C.K r ds w1 Φ) : EvD C (tCB r tr) δ w Φ := fun fz M U σ H en Q k =>
  h fz M U σ H en _ fun ds vs M1 U1 w1 H1 h1 x1 k1 d1 => h1 M1 U1 vs H1 k1 d1 Q fun d v M3 U3 w3 H3 p x3 => k d v M3 U3 w3 H3 p (en.tr x1 x3)
theorem eo_none {Φ : Option Int → World → Prop} (q : Φ none w) : EvO C tNoPart δ w Φ := fun fz M U σ H en Q k => k none M U w H q .refl en.wk
theorem eo_part {Φ : Option Int → World → Prop} (h : EvD C te δ w fun d w1 => ∃ i, d = .int i ∧ Φ (some i) w1) : EvO C (tPart te) δ w Φ := fun fz M U σ H en Q k =>
  h fz M U σ H en _ fun d v M1 U1 w1 H1 ⟨i, e, q⟩ x1 k1 d1 => by
    subst e
    cases d1
    exact ⟨i, rfl, k _ M1 U1 w1 H1 q x1 k1⟩
/-- x[lo:hi]: by values -/
def RSY (K : PySem.W.Frag) (r : V → Option Int → Option Int → Hp → VK → Prop) (a : D) (lo hi : Option Int) (w : World) (Φ : D → World → Prop) : Prop := ∀ (M U : Addr → Prop) (x : V) (H : Hp), WOk K M U w H → Dt K M H x a → RV K M U H (r x lo hi) Φ
theorem ev_sl {r : V → Option Int → Option Int → Hp → VK → Prop} {tl th : TO} (h : EvD C te δ w fun d w1 => EvO C tl δ w1 fun lo w2 => EvO C th δ w2 fun hi w3 => RSY C.K r d lo hi w3 Φ) : EvD C (tSl r te tl th) δ w Φ := fun fz M U σ H en Q k =>
  h fz M U σ H en _ fun a x M1 U1 w1 H1 h1 x1 k1 d1 => h1 fz M1 U1 σ H1 (en.stp x1 k1) _ fun lo M2 U2 w2 H2 h2 x2 k2 => h2 fz M2 U2 σ H2 (en.stp (en.tr x1 x2) k2) _ fun hi M3 U3 w3 H3 h3 x3 k3 =>
    h3 M3 U3 x H3 k3 (stp_dt k2.um x3 (stp_dt k1.um x2 d1)) Q fun d v M4 U4 w4 H4 p x4 => k d v M4 U4 w4 H4 p (en.tr (en.tr (en.tr x1 x2) x3) x4)
/-! ### calls of defs -/
/-- of a contract over worlds -/
theorem ev_cl {n j : Nat} {F : FSpec} {gV : List V → List V → List V} {gD : List D → List D → List D} {t tk : TA} (hg : ∀ M H vs zs ds es, ds.length = n → es.length = j → DtL C.K M H vs ds → DtL C.K M H zs es → DtL C.K M H (gV vs zs) (gD ds es))
    (h : EvA C t δ w fun ds w1 => EvA C tk δ w1 fun es w2 => ds.length = n ∧ es.length = j ∧ F (gD ds es) w2 Φ C.X) : EvD C (tCl n j (lift C.K F) gV C.E t tk) δ w Φ := fun fz M U σ H en Q k =>
  h fz M U σ H en _ fun ds vs M1 U1 w1 H1 h1 x1 k1 d1 => h1 fz M1 U1 σ H1 (en.stp x1 k1) _ fun es zs M2 U2 w2 H2 ⟨l1, l2, h2⟩ x2 k2 d2 =>
    have x12 := en.tr x1 x2
    ⟨(d1.length).trans l1, (d2.length).trans l2, M2, U2, gD ds es, w2, C.X, Φ, k2, hg _ _ _ _ _ _ l1 l2 (stp_dtl k1.um x2 d1) d2, fun c fs w' M' U' H' hx x3 k3 => by
      obtain ⟨t1, t2⟩ := en.ok.tx c fs w' M' U' H' hx ((en.st.trans en.ok.al x12).trans en.ok.al x3) k3
      refine ⟨fun d fv a b => t1 d fv a (Classical.byContradiction fun z => (en.st.trans en.ok.al x12).live d z b), t2⟩, h2, fun d v M' U' w' H' p x3 => k d v M' U' w' H' p (en.tr x12 x3)⟩
/-- of a contract over trees alone -/
theorem ev_clP {n j : Nat} {F : Wn.FSpec} {gV : List V → List V → List V} {gD : List D → List D → List D} {t tk : TA} (hg : ∀ M H vs zs ds es, ds.length = n → es.length = j → DtL C.K M H vs ds → DtL C.K M H zs es → DtL C.K M H (gV vs zs) (gD ds es))
    (h : EvA C t δ w fun ds w1 => EvA C tk δ w1 fun es w2 => ds.length = n ∧ es.length = j ∧ F (gD ds es) (fun d => Φ d w2) Wn.noX) : EvD C (tCl n j (Wn.lift C.K pureM F) gV C.E t tk) δ w Φ := fun fz M U σ H en Q k =>
  h fz M U σ H en _ fun ds vs M1 U1 w1 H1 h1 x1 k1 d1 => h1 fz M1 U1 σ H1 (en.stp x1 k1) _ fun es zs M2 U2 w2 H2 ⟨l1, l2, h2⟩ x2 k2 d2 =>
    ⟨(d1.length).trans l1, (d2.length).trans l2, M2, gD ds es, Wn.noX, fun d => Φ d w2, fun _ z => z.elim, k2.al, hg _ _ _ _ _ _ l1 l2 (stp_dtl k1.um x2 d1) d2, trivial, TakesX.no, h2, fun d v H' p e _ d3 =>
      have s : Same H2 H' := fun a o => e a o id
      k d v M2 U2 w2 H' p (en.tr (en.tr x1 x2) (.of_same s)) (k2.same s) d3⟩
theorem ev_clN {n j : Nat} {F : Wn.FNew} {gV : List V → List V → List V} {gD : List D → List D → List D} {t tk : TA} (hg : ∀ M H vs zs ds es, ds.length = n → es.length = j → DtL C.K M H vs ds → DtL C.K M H zs es → DtL C.K M H (gV vs zs) (gD ds es))
    (h : EvA C t δ w fun ds w1 => EvA C tk δ w1 fun es w2 => ds.length = n ∧ es.length = j ∧ F (gD ds es) (fun xs => ∀ p, w2 p = none → Φ (.adr p) (w2.set p (.p (.lst xs)))) Wn.noX) : EvD C (tCl n j (liftN C.K pureM F) gV C.E t tk) δ w Φ := fun fz M U σ H en Q k =>
  h fz M U σ H en _ fun ds vs M1 U1 w1 H1 h1 x1 k1 d1 => h1 fz M1 U1 σ H1 (en.stp x1 k1) _ fun es zs M2 U2 w2 H2 ⟨l1, l2, h2⟩ x2 k2 d2 =>
    ⟨(d1.length).trans l1, (d2.length).trans l2, M2, gD ds es, Wn.noX, _, fun _ z => z.elim, k2.al, hg _ _ _ _ _ _ l1 l2 (stp_dtl k1.um x2 d1) d2, trivial, TakesX.no, h2, fun xs p us H' q hp e _ lp dl => by
      have s : Same H2 H' := fun a o => e a o id
      obtain ⟨k3, x3⟩ := k2.new (o' := .lst xs) s hp (by rw [lp]; exact fun z => by cases z) ⟨us, lp, dl⟩
      exact k (.adr p) (.ref p) _ _ _ H' (q p (k2.free hp)) (en.tr (en.tr x1 x2) x3) k3 (.adr p)⟩
end
end Y
end Wn
end

section
/-! Worlds: fields, methods, draws, statements, cells read and written. -/
namespace Wn
namespace Y
open PySem PySem.Spec PyProof.Rows L2

/-! ### fields and methods -/
theorem noLook {K : PySem.W.Frag} {M : Addr → Prop} {H : Hp} {nm : Str} : ∀ {fv : List (Str × V)} {fs : List (Str × D)}, DtF K M H fv fs → (∀ p ∈ fs, p.1 ≠ nm) → fv.lookup nm = none
  | _, _, .nil, _ => rfl
  | _, _, @DtF.cons _ _ _ g v d fv fs h t, hl => by
    rw [List.lookup_cons, beq_eq_false_iff_ne.mpr (fun z => hl _ (List.mem_cons_self ..) z.symm)]
    exact noLook t fun p hp => hl p (List.mem_cons_of_mem _ hp)
section
variable {C : Ctx} {δ : List Sl} {w : World} {te ta tb tc : TE} {tt tu : TT} {tr : TA} {Φ Ψ : D → World → Prop}
/-- o.f of a tree -/
theorem ev_fld {f : Str} {c : Addr} (hc : Cls C.K c) (hn : NoAttr C.K c f) (h : EvD C ta δ w fun o w1 => ∃ fs d, o = .obj c fs ∧ fs.lookup f = some d ∧ Φ d w1) : EvD C (tFld C.K ta f) δ w Φ := fun fz M U σ H en Q k =>
  h fz M U σ H en _ fun o x M1 U1 w1 H1 ⟨fs, d, e, hl, p⟩ x1 k1 d1 => by
    subst e
    cases d1 with
    | @obj a _ dx fv _ hm ha hf =>
      obtain ⟨v, h1, h2⟩ := dtf_look hf hl
      exact ⟨a, c, dx, fv, v, rfl, ha, hc, hn, h1, k d v M1 U1 w1 H1 p x1 k1 h2⟩
/-- o.f of a cell -/
theorem ev_fldC {f : Str} {c : Addr} (hc : Cls C.K c) (hn : NoAttr C.K c f) (h : EvD C ta δ w fun o w1 => ∃ a fs d, o = .adr a ∧ w1 a = some (.p (.ins c fs)) ∧ fs.lookup f = some d ∧ Φ d w1) : EvD C (tFld C.K ta f) δ w Φ := fun fz M U σ H en Q k =>
  h fz M U σ H en _ fun o x M1 U1 w1 H1 ⟨a, fs, d, e, ha, hl, p⟩ x1 k1 d1 => by
    subst e
    cases d1
    obtain ⟨_, dx, fv, h1, h2⟩ := k1.cell ha
    obtain ⟨v, h3, h4⟩ := dtf_look h2 hl
    exact ⟨a, c, dx, fv, v, rfl, h1, hc, hn, h3, k d v M1 U1 w1 H1 p x1 k1 h4⟩
/-- what a receiver is: an instance of c without an attribute nm, tree or cell or hidden -/
def Recv (c : Addr) (nm : Str) (o : D) (w : World) : Prop := (∃ fs, o = .obj c fs ∧ ∀ p ∈ fs, p.1 ≠ nm) ∨ ∃ a, o = .adr a ∧ ((∃ fs, w a = some (.p (.ins c fs)) ∧ ∀ p ∈ fs, p.1 ≠ nm) ∨ ∃ P, w a = some (.g P) ∧ ∀ v : W1, P v → ∃ fs, v a = some (.ins c fs) ∧ ∀ p ∈ fs, p.1 ≠ nm)
theorem recv_at {K : PySem.W.Frag} {M U : Addr → Prop} {H : Hp} {v : V} {c : Addr} {nm : Str} {o : D} (k : WOk K M U w H) (d : Dt K M H v o) (r : Recv c nm o w) : ∃ a dx fs, v = .ref a ∧ H a = some (.ins c dx fs) ∧ fs.lookup nm = none := by
  rcases r with ⟨fs, rfl, hn⟩ | ⟨a, rfl, r⟩
  · cases d with
    | @obj a _ dx fv _ hm ha hf => exact ⟨a, dx, fv, rfl, ha, noLook hf hn⟩
  · cases d
    rcases r with ⟨fs, ha, hn⟩ | ⟨P, ha, hP⟩
    · obtain ⟨_, dx, fv, h1, h2⟩ := k.cell ha
      exact ⟨a, dx, fv, rfl, h1, noLook h2 hn⟩
    · obtain ⟨al, um, v1, ow, g1, g2, g3, g4⟩ := k
      have hp := g4 a P ha
      obtain ⟨fs, e1, hn⟩ := hP _ hp
      unfold part at e1
      split at e1
      · obtain ⟨_, dx, fv, q1, q2⟩ := g1 a _ e1
        exact ⟨a, dx, fv, rfl, q1, noLook q2 hn⟩
      · cases e1
/-- o.m(..), a contract over worlds -/
theorem ev_mt {c : Addr} {nm : Str} {n : Nat} {F : FSpec} {t : TA} (h : EvD C ta δ w fun o w1 => Recv c nm o w1 ∧ EvA C t δ w1 fun ds w2 => ds.length = n ∧ F (o :: ds) w2 Φ C.X) : EvD C (tMt c nm n (lift C.K F) gvAll C.E ta t) δ w Φ := fun fz M U σ H en Q k =>
  h fz M U σ H en _ fun o x M1 U1 w1 H1 ⟨hr, h1⟩ x1 k1 d1 => by
    obtain ⟨a, dx, fs, rfl, ha, hl⟩ := recv_at k1 d1 hr
    refine ⟨a, dx, fs, rfl, ha, hl, h1 fz M1 U1 σ H1 (en.stp x1 k1) _ fun ds vs M2 U2 w2 H2 ⟨l1, h2⟩ x2 k2 d2 => ⟨d2.length.trans l1, M2, U2, o :: ds, w2, C.X, Φ, k2, ?_, fun c' fs' w' M' U' H' hx x3 k3 => ?_, h2, fun d v M' U' w' H' p x3 => k d v M' U' w' H' p (en.tr (en.tr x1 x2) x3)⟩⟩
    · show DtL _ _ _ ((V.ref a :: vs) ++ []) _
      rw [List.append_nil]
      exact .cons (stp_dt k1.um x2 d1) d2
    · obtain ⟨t1, t2⟩ := en.ok.tx c' fs' w' M' U' H' hx ((en.st.trans en.ok.al (en.tr x1 x2)).trans en.ok.al x3) k3
      exact ⟨fun d fv a b => t1 d fv a (Classical.byContradiction fun z => (en.st.trans en.ok.al (en.tr x1 x2)).live d z b), t2⟩
/-- .. of a contract over trees alone -/
theorem ev_mtP {c : Addr} {nm : Str} {n : Nat} {F : Wn.FSpec} {t : TA} (h : EvD C ta δ w fun o w1 => Recv c nm o w1 ∧ EvA C t δ w1 fun ds w2 => ds.length = n ∧ F (o :: ds) (fun d => Φ d w2) Wn.noX) : EvD C (tMt c nm n (Wn.lift C.K pureM F) gvAll C.E ta t) δ w Φ := fun fz M U σ H en Q k =>
  h fz M U σ H en _ fun o x M1 U1 w1 H1 ⟨hr, h1⟩ x1 k1 d1 => by
    obtain ⟨a, dx, fs, rfl, ha, hl⟩ := recv_at k1 d1 hr
    refine ⟨a, dx, fs, rfl, ha, hl, h1 fz M1 U1 σ H1 (en.stp x1 k1) _ fun ds vs M2 U2 w2 H2 ⟨l1, h2⟩ x2 k2 d2 => ⟨d2.length.trans l1, M2, o :: ds, Wn.noX, fun d => Φ d w2, fun _ z => z.elim, k2.al, ?_, trivial, TakesX.no, h2, fun d v H' p e _ d3 => ?_⟩⟩
    · show DtL _ _ _ ((V.ref a :: vs) ++ []) _
      rw [List.append_nil]
      exact .cons (stp_dt k1.um x2 d1) d2
    · have s : Same H2 H' := fun a o => e a o id
      exact k d v M2 U2 w2 H' p (en.tr (en.tr x1 x2) (.of_same s)) (k2.same s) d3
/-- C(..): a new instance, a cell; __init__'s contract over worlds -/
theorem ev_mk {c : Addr} {n j : Nat} {F : FSpec} {gV : List V → List V → List V} {gD : List D → List D → List D} {t tk : TA}
    (hg : ∀ M H x vs zs ds es, ds.length = n → es.length = j → DtL C.K M H vs ds → DtL C.K M H zs es → DtL C.K M H (gV (.ref x :: vs) zs) (gD (.adr x :: ds) es))
    (h : EvA C t δ w fun ds w1 => EvA C tk δ w1 fun es w2 => ds.length = n ∧ es.length = j ∧ ∀ x, w2 x = none → F (gD (.adr x :: ds) es) (w2.set x (.p (.ins c []))) (fun d w3 => d = .non ∧ Φ (.adr x) w3) C.X) : EvD C (tMk c n j (lift C.K F) gV C.E t tk) δ w Φ := fun fz M U σ H en Q k =>
  h fz M U σ H en _ fun ds vs M1 U1 w1 H1 h1 x1 k1 d1 => h1 fz M1 U1 σ H1 (en.stp x1 k1) _ fun es zs M2 U2 w2 H2 ⟨l1, l2, h2⟩ x2 k2 d2 =>
    ⟨(d1.length).trans l1, (d2.length).trans l2, fun x dx hx hdx ne => by
      have s2 : Same H2 (L2.upd (L2.upd H2 dx (.own x)) x (.ins c dx [])) := fun a o ha => by
        rw [upd_ne (ne_of_none ha hx), upd_ne (ne_of_none ha hdx)]
        exact ha
      obtain ⟨k3, x3⟩ := k2.new (o' := .ins c []) s2 hx (by rw [upd_same]; exact fun z => by cases z) ⟨dx, [], upd_same, .nil⟩
      have x123 := en.tr (en.tr x1 x2) x3
      refine ⟨_, _, _, _, C.X, _, k3, hg _ _ _ _ _ _ _ l1 l2 (stp_dtl k2.um x3 (stp_dtl k1.um x2 d1)) (stp_dtl k2.um x3 d2), fun c' fs' w' M' U' H' hX x4 k4 => ?_, h2 x (k2.free hx), fun d v M' U' w' H' ⟨e, p⟩ x4 k4 d4 => ?_⟩
      · obtain ⟨t1, t2⟩ := en.ok.tx c' fs' w' M' U' H' hX ((en.st.trans en.ok.al x123).trans en.ok.al x4) k4
        exact ⟨fun d fv a b => t1 d fv a (Classical.byContradiction fun z => (en.st.trans en.ok.al x123).live d z b), t2⟩
      · subst e
        cases d4
        exact ⟨rfl, k (.adr x) (.ref x) M' U' w' H' p (en.tr x123 x4) k4 (.adr x)⟩⟩
/-- .. of a contract over trees alone (the instance is done at once) -/
theorem ev_mkP {K : PySem.W.Frag} (hK : K = C.K) {c : Addr} {n j : Nat} {F : FInit} {gV gR : List V → List V → List V} {gD : List D → List D → List D} {t tk : TA} (hv : ∀ x vs zs, gV (.ref x :: vs) zs = .ref x :: gR vs zs)
    (hg : ∀ M H vs zs ds es, ds.length = n → es.length = j → DtL C.K M H vs ds → DtL C.K M H zs es → DtL C.K M H (gR vs zs) (gD ds es))
    (h : EvA C t δ w fun ds w1 => EvA C tk δ w1 fun es w2 => ds.length = n ∧ es.length = j ∧ F (gD ds es) (fun fs => Φ (.obj c fs) w2) Wn.noX) : EvD C (tMk c n j (spInit K c F) gV C.E t tk) δ w Φ := fun fz M U σ H en Q k =>
  h fz M U σ H en _ fun ds vs M1 U1 w1 H1 h1 x1 k1 d1 => h1 fz M1 U1 σ H1 (en.stp x1 k1) _ fun es zs M2 U2 w2 H2 ⟨l1, l2, h2⟩ x2 k2 d2 => by
    subst hK
    refine ⟨(d1.length).trans l1, (d2.length).trans l2, fun x dx hx hdx ne => ?_⟩
    rw [hv]
    have s2 : Same H2 (L2.upd (L2.upd H2 dx (.own x)) x (.ins c dx [])) := fun a o ha => by
      rw [upd_ne (ne_of_none ha hx), upd_ne (ne_of_none ha hdx)]
      exact ha
    have args := hg _ _ _ _ _ _ l1 l2 (stp_dtl k1.um x2 d1) d2
    have back : ∀ {H3 : Hp}, Ext (initM x).B (L2.upd (L2.upd H2 dx (.own x)) x (.ins c dx [])) H3 → Same H2 H3 := fun {H3} e a o ha => e a o (fun z => by
      have z' : a = x := z
      rw [z', hx] at ha
      cases ha) (s2 a o ha)
    refine ⟨fun a => M2 a ∨ a = x, x, dx, gR vs zs, gD ds es, Wn.noX, _, rfl, upd_same, .inr rfl, fun a ha => ?_, (args.plus hx).ext (.of_same s2), TakesX.no, h2, fun fs H3 dx3 fv p e3 hx3 df => ⟨rfl, ?_⟩⟩
    · rcases ha with ha | ha
      · exact same_live s2 a (k2.al a ha)
      · rw [ha, upd_same]
        exact fun z => by cases z
    · have s3 := back e3
      exact k _ _ M2 U2 w2 H3 p (en.tr (en.tr x1 x2) (.of_same s3)) (k2.same s3) (.obj (fun z => k2.al x z hx) hx3 (df.to (fun a z => .inl z) (Ext.refl _ _)))
end

/-! ### the bag -/
def bagP (b : Addr) : W1 → Prop := fun v => ∃ (c : Addr) (cells : List Int) (a s i : Int), v b = some (.lst [.int a, .int s, .int i, .adr c]) ∧ v c = some (.lst (cells.map D.int)) ∧ b ≠ c ∧ (∀ x ∈ cells, 0 ≤ x) ∧ 0 ≤ a ∧ 0 ≤ s ∧ s < 2147483647 ∧ 0 ≤ i
def bagO (b : Addr) : MO := .g (bagP b)
theorem dtl4 {K : PySem.W.Frag} {M : Addr → Prop} {H : Hp} {vs : List V} {a s i : Int} {c : Addr} (h : DtL K M H vs [.int a, .int s, .int i, .adr c]) : vs = [.int a, .int s, .int i, .ref c] := by
  cases h with
  | cons h1 t => cases h1; cases t with
    | cons h1 t => cases h1; cases t with
      | cons h1 t => cases h1; cases t with
        | cons h1 t => cases h1; cases t; rfl
/-- the bag is lent to a contract over trees, and comes back -/
theorem WOk.bag {K : PySem.W.Frag} {M U : Addr → Prop} {w : World} {H : Hp} {b : Addr} (k : WOk K M U w H) (h : w b = some (bagO b)) :
    ∃ B : Bg, B.b = b ∧ BagI B H ∧ M b ∧ ∀ H', Ext (bagM B).B H H' → BagI B H' → WOk K M U w H' ∧ Stp M U H M U H' := by
  obtain ⟨al, um, v, ow, h1, h2, h3, h4⟩ := k
  obtain ⟨ub, ob⟩ := h2 b (by rw [h]; exact fun z => by cases z)
  have hp := h4 b _ h
  obtain ⟨c, cells, a, s, i, e1, e2, ne, pos, p1, p2, p3, p4⟩ := hp
  unfold part at e1 e2
  rw [if_pos ob] at e1
  have oc : ow c = some b := Classical.byContradiction fun z => by rw [if_neg z] at e2; cases e2
  rw [if_pos oc] at e2
  obtain ⟨ub', vs, hb, db⟩ := h1 b _ e1
  obtain ⟨uc, us, hc, dc⟩ := h1 c _ e2
  have ev := dtl4 db
  subst ev
  have eu := dtl_ints dc
  subst eu
  refine ⟨⟨b, c, cells, ne, pos⟩, rfl, ⟨a, s, i, hb, p1, p2, p3, p4, hc⟩, um b ub, fun H' x ⟨a', s', i', hb', q1, q2, q3, q4, hc'⟩ => ?_⟩
  have ex : Ext M H H' := fun z o n e => x z o (fun q => n (by rw [show z = b from q]; exact um b ub)) e
  have lv : ∀ z, H z ≠ none → H' z ≠ none := fun z n => by
    by_cases q : z = b
    · rw [q, hb']; exact fun z => by cases z
    · cases r : H z with
      | none => exact absurd r n
      | some o => rw [x z o q r]; exact fun z => by cases z
  refine ⟨⟨fun z q => lv z (al z q), um, fun z => if z = b then some (.lst [.int a', .int s', .int i', .adr c]) else v z, ow, fun z o e => ?_, h2, fun z o e => ?_, fun z P e => ?_⟩, fun z o n e => x z o (fun q => n (by rw [show z = b from q]; exact ub)) e, lv, fun _ z => .inl z, fun _ z => .inl z, fun _ z _ => z⟩
  · by_cases q : z = b
    · simp only [q, if_true] at e
      cases e
      rw [q]
      exact ⟨ub, _, hb', .cons (.int _) (.cons (.int _) (.cons (.int _) (.cons (.adr _) .nil)))⟩
    · simp only [q, if_false] at e
      exact ⟨(h1 z o e).1, (h1 z o e).2.to (fun _ z => z) ex (fun u e' => x z u q e')⟩
  · have q : z ≠ b := fun q => by rw [q, h] at e; cases e
    simp only [q, if_false]
    exact h3 z o e
  · by_cases q : z = b
    · subst q
      rw [h] at e
      cases e
      refine ⟨c, cells, a', s', i', ?_, ?_, ne, pos, q1, q2, q3, q4⟩
      · unfold part; rw [if_pos ob]; simp
      · unfold part; rw [if_pos oc]; simp only [Ne.symm ne, if_false]; exact e2
    · have : part (fun z => if z = b then some (.lst [.int a', .int s', .int i', .adr c]) else v z) ow z = part v ow z := by
        funext y
        unfold part
        by_cases hy : y = b
        · rw [hy, ob, if_neg (fun r => q (Option.some.inj r).symm), if_neg (fun r => q (Option.some.inj r).symm)]
        · simp only [hy, if_false]
      rw [this]
      exact h4 z P e
section
variable {C : Ctx} {δ : List Sl} {w : World} {te ta tb tn : TE} {tr : TA} {Φ : D → World → Prop}
/-- a def of a contract over trees that draws -/
theorem ev_clB {n j : Nat} {F : Bg → Wn.FSpec} {gV : List V → List V → List V} {gD : List D → List D → List D} {t tk : TA} (hg : ∀ M H vs zs ds es, ds.length = n → es.length = j → DtL C.K M H vs ds → DtL C.K M H zs es → DtL C.K M H (gV vs zs) (gD ds es))
    (h : EvA C t δ w fun ds w1 => EvA C tk δ w1 fun es w2 => ds.length = n ∧ es.length = j ∧ ∃ b, w2 b = some (bagO b) ∧ ∀ c cells ne pos, F ⟨b, c, cells, ne, pos⟩ (gD ds es) (fun d => Φ d w2) Wn.noX) : EvD C (tCl n j (liftB C.K F) gV C.E t tk) δ w Φ := fun fz M U σ H en Q k =>
  h fz M U σ H en _ fun ds vs M1 U1 w1 H1 h1 x1 k1 d1 => h1 fz M1 U1 σ H1 (en.stp x1 k1) _ fun es zs M2 U2 w2 H2 ⟨l1, l2, b, hb, h2⟩ x2 k2 d2 => by
    obtain ⟨⟨b', c, cells, ne, pos⟩, eb, bi, mb, back⟩ := k2.bag hb
    have eb' : b' = b := eb
    subst eb'
    refine ⟨(d1.length).trans l1, (d2.length).trans l2, ⟨b', c, cells, ne, pos⟩, M2, gD ds es, Wn.noX, fun d => Φ d w2, fun a z => by rw [show a = b' from z]; exact mb, k2.al, hg _ _ _ _ _ _ l1 l2 (stp_dtl k1.um x2 d1) d2, bi, TakesX.no, h2 c cells ne pos, fun d v H' p e i d3 => ?_⟩
    obtain ⟨k3, x3⟩ := back H' e i
    exact k d v M2 U2 w2 H' p (en.tr (en.tr x1 x2) x3) k3 d3
theorem gAll' {K : PySem.W.Frag} {n j : Nat} : ∀ M H vs zs ds es, ds.length = n → es.length = j → DtL K M H vs ds → DtL K M H zs es → DtL K M H (gvAll vs zs) (gdAll ds es) := fun M H vs zs ds es _ _ => gAll M H vs zs ds es
theorem gKw' {K : PySem.W.Frag} {n j : Nat} : ∀ M H vs zs ds es, ds.length = n → es.length = j → DtL K M H vs ds → DtL K M H zs es → DtL K M H (gvKw vs zs) (gdKw ds es) := fun M H vs zs ds es _ _ => gKw M H vs zs ds es
/-- a draw below m -/
theorem ev_tk {K : PySem.W.Frag} (hK : K = C.K) (h : EvD C ta δ w fun d w1 => ∃ b, d = .adr b ∧ EvD C tn δ w1 fun d w2 => ∃ m : Int, d = .int m ∧ w2 b = some (bagO b) ∧ (0 < m ∧ m ≤ 10 ^ 40) ∧ ∀ v : Int, 0 ≤ v → v < m → Φ (.int v) w2) :
    EvD C (tCl 2 0 (liftB K F_l_take) gvAll C.E (tCons ta (tCons tn tNil)) tNil) δ w Φ := by
  subst hK
  exact ev_clB gAll' (ea_cons (h.mono fun d w1 ⟨b, e, h2⟩ => ea_cons (h2.mono fun d2 w2 ⟨m, e2, hb, ⟨h3, h4⟩, h5⟩ => ea_nil (ea_nil ⟨rfl, rfl, b, hb, fun c cells ne pos => ⟨m, by rw [e, e2]; rfl, h3, lg (by omega) h4, h5⟩⟩))))
end
end Y
end Wn
end

section
/-! Worlds: statements, walks, comprehensions; a def's body. -/
namespace Wn
namespace Y
open PySem PySem.Spec PyProof.Rows L2

structure DE where
  nx : List Sl → World → Prop
  rt : D → World → Prop
  bk : List Sl → World → Prop := fun _ _ => False
  ct : List Sl → World → Prop := fun _ _ => False
structure Lf (C : Ctx) (fz : List (V × D)) (D' : Ends) (P : DE) : Prop where
  nx : ∀ M U σ H δ w, P.nx δ w → Env C fz M U δ w σ H → D'.nx σ H
  rt : ∀ M U v H d w, P.rt d w → Stp C.M0 C.U0 C.H0 M U H → WOk C.K M U w H → Dt C.K M H v d → D'.rt v H
  bk : ∀ M U σ H δ w, P.bk δ w → Env C fz M U δ w σ H → D'.bk σ H
  ct : ∀ M U σ H δ w, P.ct δ w → Env C fz M U δ w σ H → D'.ct σ H
def Blk (C : Ctx) (t : TS) (δ : List Sl) (w : World) (P : DE) : Prop := ∀ (fz : List (V × D)) (M U : Addr → Prop) (σ : L2.St) (H : Hp), Env C fz M U δ w σ H → ∀ D' : Ends, Lf C fz D' P → t D' σ H
section
variable {C : Ctx} {fz : List (V × D)} {M U : Addr → Prop} {δ : List Sl} {w : World} {σ : L2.St} {H H' : Hp} {P : DE} {t u : TS} {te ta tb : TE} {tt : TT} {tr : TA} {g : TG} {i : Nat}
theorem b_seq (h : Blk C t δ w { P with nx := fun δ' w' => Blk C u δ' w' P }) : Blk C (tSeq t u) δ w P := fun fz M U σ H en D' l =>
  h fz M U σ H en { D' with nx := u D' } ⟨fun M U σ H δ' w' q e => q fz M U σ H e D' l, l.rt, l.bk, l.ct⟩
theorem b_seqW (W : List Sl → World → Prop) (h : Blk C t δ w { P with nx := W }) (k : ∀ δ' w', W δ' w' → Blk C u δ' w' P) : Blk C (tSeq t u) δ w P := fun fz M U σ H en D' l =>
  h fz M U σ H en { D' with nx := u D' } ⟨fun M U σ H δ' w' q e => k δ' w' q fz M U σ H e D' l, l.rt, l.bk, l.ct⟩
theorem Blk.sub {w0 : World} (s : Sub' w0 w) (h : Blk C t δ w0 P) : Blk C t δ w P := fun fz M U σ H en D' l => h fz M U σ H ⟨en.ok, en.ln, en.sl, en.fzs, en.st, en.wk.sub s⟩ D' l
theorem b_next (h : P.nx δ w) : Blk C tNext δ w P := fun fz M U σ H en D' l => l.nx M U σ H δ w h en
theorem b_brk (h : P.bk δ w) : Blk C tBreak δ w P := fun fz M U σ H en D' l => l.bk M U σ H δ w h en
theorem b_cont (h : P.ct δ w) : Blk C tCont δ w P := fun fz M U σ H en D' l => l.ct M U σ H δ w h en
theorem b_if (h : EvT C tt δ w fun b w1 => (b = true → Blk C t δ w1 P) ∧ (b = false → Blk C u δ w1 P)) : Blk C (tIfS tt t u) δ w P := fun fz M U σ H en D' l =>
  h fz M U σ H en _ fun b M1 U1 w1 H1 hb x1 k1 => by
    cases b with
    | true => exact hb.1 rfl fz M1 U1 σ H1 (en.stp x1 k1) D' l
    | false => exact hb.2 rfl fz M1 U1 σ H1 (en.stp x1 k1) D' l
theorem b_ifT (h : EvT C tt δ w fun b w1 => b = true ∧ Blk C t δ w1 P) : Blk C (tIfS tt t u) δ w P := b_if (h.mono fun b w1 ⟨e, p⟩ => ⟨fun _ => p, fun z => absurd (e.symm.trans z) (by decide)⟩)
theorem b_ifF (h : EvT C tt δ w fun b w1 => b = false ∧ Blk C u δ w1 P) : Blk C (tIfS tt t u) δ w P := b_if (h.mono fun b w1 ⟨e, p⟩ => ⟨fun z => absurd (e.symm.trans z) (by decide), fun _ => p⟩)
/-- if ..: return False, where the test does not hold -/
theorem b_ifR (h : EvT C tt δ w fun b w1 => b = false ∧ P.nx δ w1) : Blk C (tIfS tt (tRet (tC (.bl false))) tNext) δ w P := b_ifF (h.mono fun b w1 ⟨e, q⟩ => ⟨e, b_next q⟩)
theorem b_asg (h : EvD C te δ w fun d w1 => P.nx (δ.set i (.d d)) w1) : Blk C (tAsg te (gName i)) δ w P := fun fz M U σ H en D' l =>
  h fz M U σ H en _ fun d v M1 U1 w1 H1 p x1 k1 d1 => l.nx M1 U1 _ H1 _ w1 p ((en.stp x1 k1).set d1)
theorem b_drop (h : EvD C te δ w fun _ w1 => P.nx δ w1) : Blk C (tDrop te) δ w P := fun fz M U σ H en D' l => h fz M U σ H en _ fun d v M1 U1 w1 H1 p x1 k1 d1 => l.nx M1 U1 _ H1 _ w1 p (en.stp x1 k1)
theorem b_ret (h : EvD C te δ w P.rt) : Blk C (tRet te) δ w P := fun fz M U σ H en D' l => h fz M U σ H en _ fun d v M1 U1 w1 H1 p x1 k1 d1 => l.rt M1 U1 v H1 d w1 p (en.st.trans en.ok.al x1) k1 d1
theorem b_retN (h : P.rt .non w) : Blk C tRetN δ w P := fun fz M U σ H en D' l => l.rt M U .non H .non w h en.st en.wk .non
/-- a list under way is done -/
theorem b_frz {xs : List D} {p : Addr} (i : Nat) (hi : δ[i]? = some (.d (.adr p))) (hp : w p = some (.p (.lst xs))) (h : Blk C t (δ.set i (.d (.lst xs))) (w.del p) P) : Blk C t δ w P := fun fz M U σ H en D' l => by
  obtain ⟨v, h1, u, rfl, h2⟩ := en.sl i _ hi
  cases h2
  obtain ⟨k2, x2⟩ := en.wk.frz hp
  obtain ⟨_, vs, g1, g2⟩ := en.wk.cell hp
  have e2 := (en.stp x2 k2).set (i := i) (u := .ref p) (y := .lst xs) (.lst (fun z => z.2 rfl) g1 (g2.to (fun _ z => z.1) (Ext.refl _ _)))
  have es : σ.set i (some (.ref p)) = σ := by
    apply List.ext_getElem?
    intro j
    by_cases e : j = i
    · subst e
      rw [List.getElem?_set_self (lt_of_some h1), h1]
    · rw [List.getElem?_set_ne (Ne.symm e)]
  rw [es] at e2
  exact h fz _ _ σ H e2 D' l
/-- an instance under way is done -/
theorem b_frzI {fs : List (Str × D)} {c p : Addr} (i : Nat) (hi : δ[i]? = some (.d (.adr p))) (hp : w p = some (.p (.ins c fs))) (h : Blk C t (δ.set i (.d (.obj c fs))) (w.del p) P) : Blk C t δ w P := fun fz M U σ H en D' l => by
  obtain ⟨v, h1, u, rfl, h2⟩ := en.sl i _ hi
  cases h2
  obtain ⟨k2, x2⟩ := en.wk.frz hp
  obtain ⟨_, dx, fv, g1, g2⟩ := en.wk.cell hp
  have e2 := (en.stp x2 k2).set (i := i) (u := .ref p) (y := .obj c fs) (.obj (fun z => z.2 rfl) g1 (g2.to (fun _ z => z.1) (Ext.refl _ _)))
  have es : σ.set i (some (.ref p)) = σ := by
    apply List.ext_getElem?
    intro j
    by_cases e : j = i
    · subst e
      rw [List.getElem?_set_self (lt_of_some h1), h1]
    · rw [List.getElem?_set_ne (Ne.symm e)]
  rw [es] at e2
  exact h fz _ _ σ H e2 D' l
/-! ### targets -/
def GOk (C : Ctx) (g : TG) (d : D) (δ : List Sl) (w : World) (Φ : List Sl → World → Prop) : Prop := ∀ (fz : List (V × D)) (M U : Addr → Prop) (σ : L2.St) (H : Hp) (v : V), Env C fz M U δ w σ H → Dt C.K M H v d → ∀ Q : L2.St → Hp → Prop,
  (∀ δ' σ' M' U' w' H', Φ δ' w' → Env C fz M' U' δ' w' σ' H' → Q σ' H') → g v σ H Q
def GsOk (C : Ctx) (g : TGs) (ds : List D) (δ : List Sl) (w : World) (Φ : List Sl → World → Prop) : Prop := ∀ (fz : List (V × D)) (M U : Addr → Prop) (σ : L2.St) (H : Hp) (vs : List V), Env C fz M U δ w σ H → DtL C.K M H vs ds → ∀ Q : L2.St → Hp → Prop,
  (∀ δ' σ', Φ δ' w → Env C fz M U δ' w σ' H → Q σ' H) → g vs σ H Q
/-- a target of names alone -/
def GNm (C : Ctx) (g : TG) (d : D) (δ : List Sl) (w : World) (Φ : List Sl → World → Prop) : Prop := ∀ (fz : List (V × D)) (M U : Addr → Prop) (σ : L2.St) (H : Hp) (v : V), Env C fz M U δ w σ H → Dt C.K M H v d → ∀ Q : L2.St → Hp → Prop,
  (∀ δ' σ', Φ δ' w → Env C fz M U δ' w σ' H → Q σ' H) → g v σ H Q
theorem GNm.ok {d : D} {Φ : List Sl → World → Prop} (h : GNm C g d δ w Φ) : GOk C g d δ w Φ := fun fz M U σ H v en dv Q k => h fz M U σ H v en dv Q fun δ' σ' q e => k δ' σ' M U w H q e
theorem gn_name {d : D} {Φ : List Sl → World → Prop} (h : Φ (δ.set i (.d d)) w) : GNm C (gName i) d δ w Φ := fun fz M U σ H v en dv Q k => k _ _ h (en.set dv)
theorem gs_nil {Φ : List Sl → World → Prop} (h : Φ δ w) : GsOk C gNil [] δ w Φ := fun fz M U σ H v en dv Q k => by
  cases dv
  exact ⟨rfl, k _ _ h en⟩
theorem gs_cons {d : D} {ds : List D} {gs : TGs} {Φ : List Sl → World → Prop} (h : GNm C g d δ w fun δ' w' => GsOk C gs ds δ' w Φ) : GsOk C (gCons g gs) (d :: ds) δ w Φ := fun fz M U σ H v en dv Q k => by
  cases dv with
  | cons h1 h2 => exact ⟨_, _, rfl, h fz M U σ H _ en h1 _ fun δ' σ' q e => q fz M U σ' H _ e h2 Q k⟩
theorem gn_tup {K : PySem.W.Frag} (hK : K = C.K) {n : Nat} {gs : TGs} {d : D} {Φ : List Sl → World → Prop} (h : ∃ ds, d = .tup ds ∧ ds.length = n ∧ GsOk C gs ds δ w Φ) : GNm C (gTup K n gs) d δ w Φ := fun fz M U σ H v en dv Q k => by
  subst hK
  obtain ⟨ds, rfl, hl, h⟩ := h
  cases dv with
  | @tup a vs _ n1 h1 h2 => exact ⟨a, vs, rfl, .inl h1, h2.length.trans hl, h fz M U σ H _ en h2 Q k⟩
  | @ktup a vs _ h1 h2 => exact ⟨a, vs, rfl, h1 H, h2.length.trans hl, h fz M U σ H _ en h2 Q k⟩
theorem g_name {d : D} {Φ : List Sl → World → Prop} (h : Φ (δ.set i (.d d)) w) : GOk C (gName i) d δ w Φ := (gn_name h).ok
theorem g_tup {K : PySem.W.Frag} (hK : K = C.K) {n : Nat} {gs : TGs} {d : D} {Φ : List Sl → World → Prop} (h : ∃ ds, d = .tup ds ∧ ds.length = n ∧ GsOk C gs ds δ w Φ) : GOk C (gTup K n gs) d δ w Φ := (gn_tup hK h).ok
theorem b_asgG (h : EvD C te δ w fun d w1 => GOk C g d δ w1 P.nx) : Blk C (tAsg te g) δ w P := fun fz M U σ H en D' l =>
  h fz M U σ H en _ fun d v M1 U1 w1 H1 p x1 k1 d1 => p fz M1 U1 σ H1 v (en.stp x1 k1) d1 _ fun δ' σ' M2 U2 w2 H2 q e => l.nx M2 U2 σ' H2 δ' w2 q e
theorem b_par {j : Nat} (h : EvA C tr δ w fun ds w1 => ∃ a b, ds = [a, b] ∧ P.nx ((δ.set i (.d a)).set j (.d b)) w1) : Blk C (tPar i j tr) δ w P := fun fz M U σ H en D' l =>
  h fz M U σ H en _ fun ds vs M1 U1 w1 H1 ⟨a, b, e, p⟩ x1 k1 d1 => by
    subst e
    cases d1 with
    | cons h1 t => cases t with
      | cons h2 t => cases t; exact ⟨_, _, rfl, l.nx M1 U1 _ H1 _ w1 p (((en.stp x1 k1).set h1).set h2)⟩
theorem b_aug {f : Int → Int → Int} {a : Int} (hi : δ[i]? = some (.d (.int a))) (h : EvD C te δ w fun d w1 => ∃ b, d = .int b ∧ P.nx (δ.set i (.d (.int (f a b)))) w1) : Blk C (tAug i te (ipI f)) δ w P := fun fz M U σ H en D' l => by
  obtain ⟨v, h1, u, rfl, hu⟩ := en.sl i _ hi
  cases hu
  exact ⟨_, h1, h fz M U σ H en _ fun d x M1 U1 w1 H1 ⟨b, e, p⟩ x1 k1 d1 => by
    subst e
    cases d1
    exact ⟨a, b, rfl, rfl, l.nx M1 U1 _ H1 _ w1 p ((en.stp x1 k1).set (.int _))⟩⟩
/-! ### cells written -/
/-- o.f = e -/
theorem b_fld {K : PySem.W.Frag} {c : Addr} {f : Str} (hK : K = C.K) (hc : Cls K c) (hn : NoAttr K c f)
    (h : EvD C te δ w fun d w1 => EvD C ta δ w1 fun o w2 => ∃ p fs, o = .adr p ∧ w2 p = some (.p (.ins c fs)) ∧ fs.length < 1000 ∧ P.nx δ (w2.set p (.p (.ins c (putD f d fs))))) : Blk C (sFld K ta te f) δ w P := fun fz M U σ H en D' l =>
  h fz M U σ H en _ fun d v M1 U1 w1 H1 h1 x1 k1 d1 => h1 fz M1 U1 σ H1 (en.stp x1 k1) _ fun o y M2 U2 w2 H2 ⟨p, fs, e, hp, hl, q⟩ x2 k2 d2 => by
    subst hK
    subst e
    cases d2
    obtain ⟨up, dx, fv, g1, g2⟩ := k2.cell hp
    have ex : Ext M2 H2 (L2.upd H2 p (.ins c dx (putF f v fv))) := fun a o n e => by rw [upd_ne (fun z => n (by rw [z]; exact k2.um p up))]; exact e
    obtain ⟨k3, x3⟩ := k2.put (o' := .ins c (putD f d fs)) (ho := .ins c dx (putF f v fv)) hp ⟨dx, _, upd_same, (dtf_put (stp_dt k1.um x2 d1) g2).ext ex⟩
    exact ⟨p, c, dx, fv, rfl, g1, hc, hn, by rw [g2.length]; exact hl, l.nx M2 U2 σ _ δ _ q (en.stp (en.tr (en.tr x1 x2) x3) k3)⟩
/-- a built-in type's method on a receiver -/
theorem ev_bm {K : PySem.W.Frag} {T : String} {r : V → List V → Hp → VK → Prop} {Φ : D → World → Prop}
    (h : EvD C ta δ w fun o w1 => (∀ M U H1 x, WOk C.K M U w1 H1 → Dt C.K M H1 x o → tyV K T x H1) ∧ EvA C tr δ w1 fun ds w2 => RMY C.K r o ds w2 Φ) : EvD C (tBM K T r ta tr) δ w Φ := fun fz M U σ H en Q k =>
  h fz M U σ H en _ fun o x M1 U1 w1 H1 ⟨ht, h1⟩ x1 k1 d1 => ⟨ht M1 U1 H1 x k1 d1, h1 fz M1 U1 σ H1 (en.stp x1 k1) _ fun ds vs M2 U2 w2 H2 h2 x2 k2 d2 =>
    h2 M2 U2 x vs H2 k2 (stp_dt k1.um x2 d1) d2 Q fun d v M3 U3 w3 H3 p x3 => k d v M3 U3 w3 H3 p (en.tr (en.tr x1 x2) x3)⟩
theorem ev_bm0 {K : PySem.W.Frag} {T : String} {r : V → List V → Hp → VK → Prop} {Φ : D → World → Prop}
    (h : EvD C ta δ w fun o w1 => (∀ M U H1 x, WOk C.K M U w1 H1 → Dt C.K M H1 x o → tyV K T x H1) ∧ RMY C.K r o [] w1 Φ) : EvD C (tBM0 K T r ta) δ w Φ := fun fz M U σ H en Q k =>
  h fz M U σ H en _ fun o x M1 U1 w1 H1 ⟨ht, h1⟩ x1 k1 d1 => ⟨ht M1 U1 H1 x k1 d1, h1 M1 U1 x [] H1 k1 d1 .nil Q fun d v M3 U3 w3 H3 p x3 => k d v M3 U3 w3 H3 p (en.tr x1 x3)⟩
end
/-- the receiver is a list under way -/
theorem ty_list {K : PySem.W.Frag} {p : Addr} {xs : List D} {w : World} (h : w p = some (.p (.lst xs))) : ∀ M U H1 x, WOk K M U w H1 → Dt K M H1 x (.adr p) → tyV K "list" x H1 := fun M U H1 x k d => by
  cases d
  obtain ⟨_, vs, h1, _⟩ := k.cell h
  exact .inl ⟨rfl, vs, SqL.of h1⟩
theorem ty_lstT {K : PySem.W.Frag} {xs : List D} {w : World} : ∀ M U H1 x, WOk K M U w H1 → Dt K M H1 x (.lst xs) → tyV K "list" x H1 := fun M U H1 x k d => by
  obtain ⟨a, vs, rfl, _, h1, _⟩ := dt_lst d
  exact .inl ⟨rfl, vs, SqL.of h1⟩
theorem ty_str {K : PySem.W.Frag} {z : Str} {w : World} : ∀ M U H1 x, WOk K M U w H1 → Dt K M H1 x (.str z) → tyV K "str" x H1 := fun M U H1 x k d => by
  cases d
  rfl
theorem ty_dict {K : PySem.W.Frag} {p : Addr} {kvs : List (Key × D)} {w : World} (h : w p = some (.p (.dct none kvs))) : ∀ M U H1 x, WOk K M U w H1 → Dt K M H1 x (.adr p) → tyV K "dict" x H1 := fun M U H1 x k d => by
  cases d
  obtain ⟨_, vs, h1, _⟩ := k.cell h
  exact .inr (.inr (.inl ⟨rfl, .inl ⟨vs, h1⟩⟩))
section
variable {K : PySem.W.Frag} {p : Addr} {xs : List D} {w : World} {Φ : D → World → Prop}
theorem upd_ext {M : Addr → Prop} {H : Hp} {o : HO} (m : M p) : Ext M H (L2.upd H p o) := fun a u n e => by rw [upd_ne (fun z => n (by rw [z]; exact m))]; exact e
theorem put_lst {M U : Addr → Prop} {H : Hp} {vs : List V} {ys : List D} (k : WOk K M U w H) (h : w p = some (.p (.lst xs))) (d : DtL K M H vs ys) : WOk K M U (w.set p (.p (.lst ys))) (L2.upd H p (.lst vs)) ∧ Stp M U H M U (L2.upd H p (.lst vs)) :=
  k.put h ⟨vs, upd_same, d.ext (upd_ext (k.um p (k.cell h).1))⟩
theorem rm_append {y : D} (h : w p = some (.p (.lst xs))) (hl : xs.length < 100000) (q : Φ .non (w.set p (.p (.lst (xs ++ [y]))))) : RMY K rAppend (.adr p) [y] w Φ := fun M U x vs H k d1 d2 Q kk => by
  cases d1
  obtain ⟨v, rfl, dv⟩ := dt1 d2
  obtain ⟨up, us, h1, h2⟩ := k.cell h
  obtain ⟨k3, x3⟩ := put_lst k h (h2.append (.cons dv .nil))
  exact ⟨p, us, v, rfl, rfl, h1, by rw [h2.length]; exact Nat.lt_of_lt_of_le hl (by decide), kk .non .non M U _ _ q x3 k3 .non⟩
theorem rm_extend {ys : List D} (h : w p = some (.p (.lst xs))) (hl : xs.length + ys.length ≤ 100000) (q : Φ .non (w.set p (.p (.lst (xs ++ ys))))) : RMY K rExtend (.adr p) [.lst ys] w Φ := fun M U x vs H k d1 d2 Q kk => by
  cases d1
  obtain ⟨v, rfl, dv⟩ := dt1 d2
  obtain ⟨a, zs, rfl, n1, g1, g2⟩ := dt_lst dv
  obtain ⟨up, us, h1, h2⟩ := k.cell h
  obtain ⟨k3, x3⟩ := put_lst k h (h2.append g2)
  exact ⟨p, a, us, zs, rfl, rfl, h1, g1, by rw [h2.length, g2.length]; exact Nat.le_trans hl (by decide), kk .non .non M U _ _ q x3 k3 .non⟩
theorem rm_rev (h : w p = some (.p (.lst xs))) (q : Φ .non (w.set p (.p (.lst xs.reverse)))) : RMY K rReverse (.adr p) [] w Φ := fun M U x vs H k d1 d2 Q kk => by
  cases d1
  cases d2
  obtain ⟨up, us, h1, h2⟩ := k.cell h
  obtain ⟨k3, x3⟩ := put_lst k h (dtl_rev h2)
  exact ⟨p, us, rfl, rfl, h1, kk .non .non M U _ _ q x3 k3 .non⟩
theorem rm_clear (h : w p = some (.p (.lst xs))) (q : Φ .non (w.set p (.p (.lst [])))) : RMY K rClear (.adr p) [] w Φ := fun M U x vs H k d1 d2 Q kk => by
  cases d1
  cases d2
  obtain ⟨up, us, h1, h2⟩ := k.cell h
  obtain ⟨k3, x3⟩ := put_lst k h (.nil : DtL K M H [] [])
  exact ⟨p, us, rfl, rfl, h1, kk .non .non M U _ _ q x3 k3 .non⟩
theorem dtl_dropLast {M : Addr → Prop} {H : Hp} : ∀ {vs : List V} {ds : List D}, DtL K M H vs ds → DtL K M H vs.dropLast ds.dropLast
  | _, _, .nil => .nil
  | _, _, .cons h .nil => .nil
  | _, _, .cons h (.cons g t) => .cons h (dtl_dropLast (.cons g t))
theorem rm_pop {y : D} (h : w p = some (.p (.lst xs))) (hy : xs[xs.length - 1]? = some y) (q : Φ y (w.set p (.p (.lst xs.dropLast)))) : RMY K rPop (.adr p) [] w Φ := fun M U x vs H k d1 d2 Q kk => by
  cases d1
  cases d2
  obtain ⟨up, us, h1, h2⟩ := k.cell h
  obtain ⟨v, e1, dv⟩ := h2.get hy
  obtain ⟨k3, x3⟩ := put_lst k h (dtl_dropLast h2)
  exact ⟨p, us, v, rfl, rfl, h1, by rw [h2.length]; exact e1, kk y v M U _ _ q x3 k3 (stp_dt k.um x3 dv)⟩
theorem dtl_erase {M : Addr → Prop} {H : Hp} : ∀ {vs : List V} {ds : List D} (i : Nat), DtL K M H vs ds → DtL K M H (vs.eraseIdx i) (ds.eraseIdx i)
  | _, _, i, .nil => by simp; exact .nil
  | _, _, 0, .cons h t => t
  | _, _, i + 1, .cons h t => .cons h (dtl_erase i t)
theorem rm_popAt {y : D} {i : Int} {j : Nat} (h : w p = some (.p (.lst xs))) (hi : -(2 ^ 63) ≤ i ∧ i < 2 ^ 63) (hj : seqIndex? i xs.length = some j) (hy : xs[j]? = some y) (q : Φ y (w.set p (.p (.lst (xs.eraseIdx j))))) : RMY K rPopAt (.adr p) [.int i] w Φ := fun M U x vs H k d1 d2 Q kk => by
  cases d1
  obtain ⟨v0, rfl, dv0⟩ := dt1 d2
  cases dv0
  obtain ⟨up, us, h1, h2⟩ := k.cell h
  obtain ⟨v, e1, dv⟩ := h2.get hy
  obtain ⟨k3, x3⟩ := put_lst k h (dtl_erase j h2)
  exact ⟨p, us, i, j, v, rfl, rfl, h1, hi.1, hi.2, by rw [h2.length]; exact hj, e1, kk y v M U _ _ q x3 k3 (stp_dt k.um x3 dv)⟩
/-! a list under way, read -/
theorem ry_ixC {i : Int} {d : D} (h : w p = some (.p (.lst xs))) (e : atI xs i = some d) (q : Φ d w) : RY K (rIx K) (.adr p) (.int i) w Φ := fun M U x y H k d1 d2 Q kk => by
  cases d1; cases d2
  obtain ⟨up, us, h1, h2⟩ := k.cell h
  obtain ⟨v, e', dv⟩ := dtl_atI h2 e
  exact .inl ⟨p, us, i, v, rfl, rfl, SqL.of h1, e', kk d v M U w H q .refl k dv⟩
theorem rc_lenC (h : w p = some (.p (.lst xs))) (q : Φ (.int xs.length) w) : RCY K (rLenU K) [.adr p] w Φ := fun M U vs H k d Q kk => by
  obtain ⟨v, rfl, dv⟩ := dt1 d
  cases dv
  obtain ⟨up, us, h1, h2⟩ := k.cell h
  refine ⟨.ref p, us.length, rfl, .inl ⟨us, SqL.of h1, rfl⟩, ?_⟩
  rw [h2.length]
  exact kk _ _ M U w H q .refl k (.int _)
theorem rc_listC (h : w p = some (.p (.lst xs))) (q : ∀ r, w r = none → Φ (.adr r) (w.set r (.p (.lst xs)))) : RCY K (rListU K) [.adr p] w Φ := fun M U vs H k d Q kk => by
  obtain ⟨v, rfl, dv⟩ := dt1 d
  cases dv
  obtain ⟨up, us, h1, h2⟩ := k.cell h
  refine ⟨p, us, rfl, .inl (SqL.of h1), fun l hl => ?_⟩
  obtain ⟨k2, x2⟩ := new_cell k hl h2
  exact kk _ _ _ _ _ _ (q l (k.free hl)) x2 k2 (.adr l)
theorem rc_listT {ys : List D} (q : ∀ r, w r = none → Φ (.adr r) (w.set r (.p (.lst ys)))) : RCY K (rListU K) [.lst ys] w Φ := fun M U vs H k d Q kk => by
  obtain ⟨v, rfl, dv⟩ := dt1 d
  obtain ⟨a, us, rfl, n1, h1, h2⟩ := dt_lst dv
  refine ⟨a, us, rfl, .inl (SqL.of h1), fun l hl => ?_⟩
  obtain ⟨k2, x2⟩ := new_cell k hl h2
  exact kk _ _ _ _ _ _ (q l (k.free hl)) x2 k2 (.adr l)
theorem rc_listU {ys : List D} (q : ∀ r, w r = none → Φ (.adr r) (w.set r (.p (.lst ys)))) : RCY K (rListU K) [.tup ys] w Φ := fun M U vs H k d Q kk => by
  obtain ⟨v, rfl, dv⟩ := dt1 d
  obtain ⟨a, us, rfl, h1, h2⟩ := dt_tup dv
  refine ⟨a, us, rfl, .inr h1, fun l hl => ?_⟩
  obtain ⟨k2, x2⟩ := new_cell k hl h2
  exact kk _ _ _ _ _ _ (q l (k.free hl)) x2 k2 (.adr l)
/-- tuple(xs) -/
theorem rc_tupT {ys : List D} (q : Φ (.tup ys) w) : RCY K (rTupU K) [.lst ys] w Φ := fun M U vs H k d Q kk => by
  obtain ⟨v, rfl, dv⟩ := dt1 d
  obtain ⟨a, us, rfl, n1, h1, h2⟩ := dt_lst dv
  refine ⟨a, us, rfl, .inl ⟨SqL.of h1, fun l hl => ?_⟩⟩
  have s := same_new (o := .tup us) hl
  exact kk _ _ M U w _ q (.of_same s) (k.same s) (.tup (fun z => k.al l z hl) (.inl upd_same) (h2.ext (.of_same s)))
theorem rc_tupC {ys : List D} (h : w p = some (.p (.lst ys))) (q : Φ (.tup ys) w) : RCY K (rTupU K) [.adr p] w Φ := fun M U vs H k d Q kk => by
  obtain ⟨v, rfl, dv⟩ := dt1 d
  cases dv
  obtain ⟨up, us, h1, h2⟩ := k.cell h
  refine ⟨p, us, rfl, .inl ⟨SqL.of h1, fun l hl => ?_⟩⟩
  have s := same_new (o := .tup us) hl
  exact kk _ _ M U w _ q (.of_same s) (k.same s) (.tup (fun z => k.al l z hl) (.inl upd_same) (h2.ext (.of_same s)))
end
section
variable {C : Ctx} {δ : List Sl} {w : World} {P : DE} {te to ti : TE}
/-- xs[i] = e -/
theorem dtl_set {K : PySem.W.Frag} {M : Addr → Prop} {H : Hp} {v : V} {d : D} (h : Dt K M H v d) : ∀ {vs : List V} {ds : List D} (i : Nat), DtL K M H vs ds → DtL K M H (vs.set i v) (ds.set i d)
  | _, _, _, .nil => .nil
  | _, _, 0, .cons _ t => .cons h t
  | _, _, i + 1, .cons a t => .cons a (dtl_set h i t)
theorem b_sub (h : EvD C te δ w fun d w1 => EvD C to δ w1 fun o w2 => EvD C ti δ w2 fun n w3 => ∃ p xs k j, o = .adr p ∧ n = .int k ∧ w3 p = some (.p (.lst xs)) ∧ ixN xs.length k = some j ∧ P.nx δ (w3.set p (.p (.lst (xs.set j d))))) : Blk C (tAsg te (gSub to ti rSetL)) δ w P := fun fz M U σ H en D' l =>
  h fz M U σ H en _ fun d v M1 U1 w1 H1 h1 x1 k1 d1 => h1 fz M1 U1 σ H1 (en.stp x1 k1) _ fun o y M2 U2 w2 H2 h2 x2 k2 d2 => h2 fz M2 U2 σ H2 (en.stp (en.tr x1 x2) k2) _ fun n z M3 U3 w3 H3 ⟨p, xs, kk, j, e1, e2, hp, hj, q⟩ x3 k3 d3 => by
    subst e1 e2
    cases d2
    cases d3
    obtain ⟨up, us, g1, g2⟩ := k3.cell hp
    obtain ⟨k4, x4⟩ := put_lst k3 hp (dtl_set (stp_dt k2.um x3 (stp_dt k1.um x2 d1)) j g2)
    exact ⟨p, us, kk, j, rfl, rfl, g1, by rw [g2.length]; exact hj, l.nx M3 U3 σ _ δ _ q (en.stp (en.tr (en.tr (en.tr x1 x2) x3) x4) k4)⟩
theorem ixN_nat {n j : Nat} (hj : j < n) : ixN n (j : Int) = some j := by
  unfold ixN
  rw [if_pos (by omega), if_pos (by omega)]
  simp
/-- xs[i] op= e -/
theorem b_augS {tv : TE} {K : PySem.W.Frag} (hK : K = C.K) {f : Int → Int → Int} (h : EvD C to δ w fun o w1 => EvD C ti δ w1 fun n w2 => ∃ p xs, o = .adr p ∧ w2 p = some (.p (.lst xs)) ∧ ∃ (j : Nat) (a : Int), n = .int (j : Int) ∧ xs[j]? = some (.int a) ∧ EvD C tv δ w2 fun e w3 => ∃ b ys, e = .int b ∧ w3 p = some (.p (.lst ys)) ∧ j < ys.length ∧ P.nx δ (w3.set p (.p (.lst (ys.set j (.int (f a b))))))) : Blk C (tAugS to ti tv (rGetL K) (ipI f) rSetL) δ w P := fun fz M U σ H en D' l =>
  h fz M U σ H en _ fun o y M1 U1 w1 H1 h1 x1 k1 d1 => h1 fz M1 U1 σ H1 (en.stp x1 k1) _ fun n z M2 U2 w2 H2 ⟨p, xs, e1, hp, j, a, e2, ha, h2⟩ x2 k2 d2 => by
    subst hK
    subst e1 e2
    cases d1
    cases d2
    obtain ⟨up, us, g1, g2⟩ := k2.cell hp
    obtain ⟨v, gv, dv⟩ := g2.get ha
    cases dv
    refine ⟨p, us, j, .int a, rfl, rfl, SqL.of g1, gv, h2 fz M2 U2 σ H2 (en.stp (en.tr x1 x2) k2) _ fun e u M3 U3 w3 H3 ⟨b, ys, e3, hp3, hj, q⟩ x3 k3 d3 => ?_⟩
    subst e3
    cases d3
    obtain ⟨up3, us3, g3, g4⟩ := k3.cell hp3
    obtain ⟨k4, x4⟩ := put_lst k3 hp3 (dtl_set (.int (f a b)) j g4)
    exact ⟨a, b, rfl, rfl, p, us3, (j : Int), j, rfl, rfl, g3, by rw [g4.length]; exact ixN_nat hj, l.nx M3 U3 σ _ δ _ q (en.stp (en.tr (en.tr (en.tr x1 x2) x3) x4) k4)⟩
end
/-! ### walks -/
/-- J walks n things: the i-th is a tree of which X i holds, as long as G holds of the world -/
def Wk (C : Ctx) (fz : List (V × D)) (J : It) (n : Nat) (G : World → Prop) (X : Nat → D → Prop) : Prop := ∀ (i : Nat) (M U : Addr → Prop) (δ : List Sl) (w : World) (σ : L2.St) (H : Hp), Env C fz M U δ w σ H → G w →
  (n ≤ i → J.stop i H) ∧ (i < n → J.go i H ∧ ∀ x H', J.yld i H x H' → ∃ d, X i d ∧ Same H H' ∧ Dt C.K M H' x d)
def EvI (C : Ctx) (wi : TI) (δ : List Sl) (w : World) (Ψ : Nat → (World → Prop) → (Nat → D → Prop) → World → Prop) : Prop := ∀ (fz : List (V × D)) (M U : Addr → Prop) (σ : L2.St) (H : Hp), Env C fz M U δ w σ H → ∀ R : It → Hp → Prop,
  (∀ J q M' U' w' H' n G X, Ψ n G X w' → Env C (q ++ fz) M' U' δ w' σ H' → Stp M U H M' U' H' → Wk C (q ++ fz) J n G X → R J H') → wi σ H R
section
variable {C : Ctx} {δ : List Sl} {w : World} {P : DE} {te tl : TE} {tt : TT} {tr : TA} {t : TS} {g : TG} {wi : TI} {K : PySem.W.Frag} {Ψ : Nat → (World → Prop) → (Nat → D → Prop) → World → Prop}
theorem Env.cut {q fz : List (V × D)} {M U : Addr → Prop} {σ : L2.St} {H : Hp} (en : Env C (q ++ fz) M U δ w σ H) : Env C fz M U δ w σ H := ⟨en.ok, en.ln, en.sl, fun p h => en.fzs p (List.mem_append_right _ h), en.st, en.wk⟩
/-- for x in .. -/
theorem b_for (W : Nat → List Sl → World → Prop) (h : EvI C wi δ w fun n G X w1 => W 0 δ w1 ∧ (∀ i δ' w', W i δ' w' → G w') ∧
      (∀ (i : Nat) x δ' w', i < n → X i x → W i δ' w' → GOk C g x δ' w' fun δ2 w2 => Blk C t δ2 w2 { nx := W (i + 1), ct := W (i + 1), bk := P.nx, rt := P.rt }) ∧ ∀ δ' w', W n δ' w' → P.nx δ' w') : Blk C (tFor wi g t) δ w P := fun fz M U σ H en D' l =>
  h fz M U σ H en _ fun J q M1 U1 w1 H1 n G X ⟨h0, hG, hs, hd⟩ e1 x1 wk => by
    refine ⟨fun i m σ' H' => m = n - i ∧ i ≤ n ∧ ∃ δ' M' U' w', W i δ' w' ∧ Env C (q ++ fz) M' U' δ' w' σ' H', ⟨_, rfl, Nat.zero_le _, δ, M1, U1, w1, h0, e1⟩, ?_⟩
    rintro i m σ' H' ⟨rfl, hi, δ', M', U', w', hw, e'⟩
    obtain ⟨hst, hgo⟩ := wk i M' U' δ' w' σ' H' e' (hG i δ' w' hw)
    by_cases hlt : i < n
    · obtain ⟨g1, g2⟩ := hgo hlt
      refine .inr ⟨g1, fun σ2 H2 => ∃ δ2 M2 U2 w2, W (i + 1) δ2 w2 ∧ Env C (q ++ fz) M2 U2 δ2 w2 σ2 H2, fun σ2 H2 ⟨δ2, M2, U2, w2, hw2, e2⟩ => ⟨_, by omega, rfl, hlt, δ2, M2, U2, w2, hw2, e2⟩, fun x H2 hy => ?_⟩
      obtain ⟨d, hx, s, dx⟩ := g2 x H2 hy
      exact hs i d δ' w' hlt hx hw (q ++ fz) M' U' σ' H2 x (e'.stp (.of_same s) (e'.wk.same s)) dx _ fun δ2 σ2 M2 U2 w2 H3 hb e2 => hb (q ++ fz) M2 U2 σ2 H3 e2 _
        ⟨fun M3 U3 σ3 H3 δ3 w3 q3 e3 => ⟨δ3, M3, U3, w3, q3, e3⟩, l.rt, fun M3 U3 σ3 H3 δ3 w3 q3 e3 => l.nx M3 U3 σ3 H3 δ3 w3 q3 e3.cut, fun M3 U3 σ3 H3 δ3 w3 q3 e3 => ⟨δ3, M3, U3, w3, q3, e3⟩⟩
    · have ei : i = n := by omega
      subst ei
      exact .inl ⟨hst (Nat.le_refl _), l.nx M' U' σ' H' δ' w' (hd δ' w' hw) e'.cut⟩
/-- what is walked: a list, tuple, text -/
theorem ei_uL (h : EvI C (iList K tl) δ w Ψ) : EvI C (iU K tl) δ w Ψ := fun fz M U σ H en R k => .inl (h fz M U σ H en R k)
theorem ei_uT (h : EvI C (iTup K tl) δ w Ψ) : EvI C (iU K tl) δ w Ψ := fun fz M U σ H en R k => .inr (.inl (h fz M U σ H en R k))
theorem ei_uS (h : EvI C (iStr tl) δ w Ψ) : EvI C (iU K tl) δ w Ψ := fun fz M U σ H en R k => .inr (.inr (h fz M U σ H en R k))
theorem fz_hd {q : V × D} {fz : List (V × D)} {M U : Addr → Prop} {σ : L2.St} {H : Hp} {δ : List Sl} {w : World} (en : Env C ([q] ++ fz) M U δ w σ H) : Dt C.K M H q.1 q.2 := en.fzs q (by simp)
theorem Env.add {q : V × D} {fz : List (V × D)} {M U : Addr → Prop} {σ : L2.St} {H : Hp} (en : Env C fz M U δ w σ H) (h : Dt C.K M H q.1 q.2) : Env C ([q] ++ fz) M U δ w σ H := en.fz1 h
theorem ei_L (hK : K = C.K) (h : EvD C tl δ w fun d w1 => ∃ ds : List D, d = .lst ds ∧ Ψ ds.length (fun _ => True) (fun i x => ds[i]? = some x) w1) : EvI C (iList K tl) δ w Ψ := fun fz M U σ H en R k =>
  h fz M U σ H en _ fun d v M1 U1 w1 H1 ⟨ds, e, q⟩ x1 k1 d1 => by
    subst hK e
    obtain ⟨a, vs, rfl, n1, h1, h2⟩ := dt_lst d1
    refine ⟨a, rfl, ⟨vs, SqL.of h1⟩, k _ [(.ref a, .lst ds)] M1 U1 w1 H1 _ _ _ q ((en.stp x1 k1).add d1) x1 fun i M U δ w σ H e _ => ?_⟩
    obtain ⟨a', us, e', _, g1, g2⟩ := dt_lst (fz_hd e)
    cases e'
    have el := g2.length
    refine ⟨fun hi => ⟨us, SqL.of g1, by omega⟩, fun hi => ⟨⟨us, us[i]'(by omega), SqL.of g1, by simp⟩, fun x H' ⟨eH, hx⟩ => ?_⟩⟩
    subst eH
    obtain ⟨d, q1, q2⟩ := dtl_at g2 (hx us (SqL.of g1))
    exact ⟨d, q1, same_refl _, q2⟩
theorem ei_T (hK : K = C.K) (h : EvD C tl δ w fun d w1 => ∃ ds : List D, d = .tup ds ∧ Ψ ds.length (fun _ => True) (fun i x => ds[i]? = some x) w1) : EvI C (iTup K tl) δ w Ψ := fun fz M U σ H en R k =>
  h fz M U σ H en _ fun d v M1 U1 w1 H1 ⟨ds, e, q⟩ x1 k1 d1 => by
    subst hK e
    obtain ⟨a, vs, rfl, h1, h2⟩ := dt_tup d1
    refine ⟨a, rfl, ⟨vs, h1⟩, k _ [(.ref a, .tup ds)] M1 U1 w1 H1 _ _ _ q ((en.stp x1 k1).add d1) x1 fun i M U δ w σ H e _ => ?_⟩
    obtain ⟨a', us, e', g1, g2⟩ := dt_tup (fz_hd e)
    cases e'
    have el := g2.length
    refine ⟨fun hi => ⟨us, g1, by omega⟩, fun hi => ⟨⟨us, us[i]'(by omega), g1, by simp⟩, fun x H' ⟨eH, hx⟩ => ?_⟩⟩
    subst eH
    obtain ⟨d, q1, q2⟩ := dtl_at g2 (hx us g1)
    exact ⟨d, q1, same_refl _, q2⟩
/-- a list under way: it stays so -/
theorem ei_C (hK : K = C.K) (h : EvD C tl δ w fun d w1 => ∃ (p : Addr) (ds : List D), d = .adr p ∧ w1 p = some (.p (.lst ds)) ∧ Ψ ds.length (fun w' => w' p = some (.p (.lst ds))) (fun i x => ds[i]? = some x) w1) : EvI C (iList K tl) δ w Ψ := fun fz M U σ H en R k =>
  h fz M U σ H en _ fun d v M1 U1 w1 H1 ⟨p, ds, e, hp, q⟩ x1 k1 d1 => by
    subst hK e
    cases d1
    obtain ⟨up, vs, h1, h2⟩ := k1.cell hp
    refine ⟨p, rfl, ⟨vs, SqL.of h1⟩, k _ [] M1 U1 w1 H1 _ _ _ q (en.stp x1 k1) x1 fun i M U δ w σ H e hG => ?_⟩
    obtain ⟨up, us, g1, g2⟩ := e.wk.cell hG
    have el := g2.length
    refine ⟨fun hi => ⟨us, SqL.of g1, by omega⟩, fun hi => ⟨⟨us, us[i]'(by omega), SqL.of g1, by simp⟩, fun x H' ⟨eH, hx⟩ => ?_⟩⟩
    subst eH
    obtain ⟨d, q1, q2⟩ := dtl_at g2 (hx us (SqL.of g1))
    exact ⟨d, q1, same_refl _, q2⟩
theorem ei_S (h : EvD C tl δ w fun d w1 => ∃ z : Str, d = .str z ∧ Ψ z.cps.toList.length (fun _ => True) (fun i x => ∃ c, z.cps.toList[i]? = some c ∧ x = .str ⟨#[c]⟩) w1) : EvI C (iStr tl) δ w Ψ := fun fz M U σ H en R k =>
  h fz M U σ H en _ fun d v M1 U1 w1 H1 ⟨z, e, q⟩ x1 k1 d1 => by
    subst e
    cases d1
    refine ⟨z, rfl, k _ [] M1 U1 w1 H1 _ _ _ q (en.stp x1 k1) x1 fun i M U δ w σ H e _ => ?_⟩
    refine ⟨fun hi => by have : z.cps.toList.length = z.cps.size := by simp
                         show z.cps.size ≤ i; omega, fun hi => ⟨by show i < z.cps.size; simpa using hi, fun x H' ⟨eH, c, hc, hx⟩ => ?_⟩⟩
    subst eH hx
    exact ⟨_, ⟨c, by simpa using hc, rfl⟩, same_refl _, .str _⟩
theorem ei_R {ta : TA} (h : EvA C ta δ w fun ds w1 => ∃ n : Int, ds = [.int n] ∧ (n ≤ 2 ^ 61 ∧ -(2 ^ 61) ≤ n) ∧ Ψ n.toNat (fun _ => True) (fun i x => x = .int (i : Int)) w1) : EvI C (iRng1 ta) δ w Ψ := fun fz M U σ H en R k =>
  h fz M U σ H en _ fun ds vs M1 U1 w1 H1 ⟨n, e, hn, q⟩ x1 k1 d1 => by
    subst e
    obtain ⟨v, rfl, dv⟩ := dt1 d1
    cases dv
    refine ⟨n, rfl, by omega, by omega, k _ [] M1 U1 w1 H1 _ _ _ q (en.stp x1 k1) x1 fun i M U δ w σ H e _ => ⟨fun hi => hi, fun hi => ⟨hi, fun x H' ⟨eH, hx⟩ => ?_⟩⟩⟩
    subst eH
    rw [Int.zero_add] at hx
    subst hx
    exact ⟨_, rfl, same_refl _, .int _⟩
theorem ei_R2 {ta : TA} (h : EvA C ta δ w fun ds w1 => ∃ m n : Int, ds = [.int m, .int n] ∧ (n ≤ 2 ^ 61 ∧ -(2 ^ 61) ≤ n ∧ m ≤ 2 ^ 61 ∧ -(2 ^ 61) ≤ m) ∧ Ψ (n - m).toNat (fun _ => True) (fun i x => x = .int (m + (i : Int))) w1) : EvI C (iRng2 ta) δ w Ψ := fun fz M U σ H en R k =>
  h fz M U σ H en _ fun ds vs M1 U1 w1 H1 ⟨m, n, e, hn, q⟩ x1 k1 d1 => by
    subst e
    obtain ⟨v, u, rfl, dv, du⟩ := dt2 d1
    cases dv; cases du
    refine ⟨m, n, rfl, by omega, k _ [] M1 U1 w1 H1 _ _ _ q (en.stp x1 k1) x1 fun i M U δ w σ H e _ => ⟨fun hi => hi, fun hi => ⟨hi, fun x H' ⟨eH, hx⟩ => ?_⟩⟩⟩
    subst eH hx
    exact ⟨_, rfl, same_refl _, .int _⟩
/-- enumerate(a list) -/
theorem ei_E (hK : K = C.K) (h : EvA C tr δ w fun d w1 => ∃ ds : List D, d = [.lst ds] ∧ Ψ ds.length (fun _ => True) (fun i x => ∃ y, ds[i]? = some y ∧ x = .tup [.int (i : Int), y]) w1) : EvI C (iEnum K tr) δ w Ψ := fun fz M U σ H en R k =>
  h fz M U σ H en _ fun d v M1 U1 w1 H1 ⟨ds, e, q⟩ x1 k1 d1 => by
    subst hK e
    obtain ⟨v, rfl, dv⟩ := dt1 d1
    obtain ⟨a, vs, rfl, n1, h1, h2⟩ := dt_lst dv
    refine ⟨a, vs, rfl, SqL.of h1, k _ [(.ref a, .lst ds)] M1 U1 w1 H1 _ _ _ q ((en.stp x1 k1).add dv) x1 fun i M U δ w σ H e _ => ?_⟩
    obtain ⟨a', us, e', _, g1, g2⟩ := dt_lst (fz_hd e)
    cases e'
    have el := g2.length
    refine ⟨fun hi => ⟨us, SqL.of g1, by omega⟩, fun hi => ⟨⟨us, us[i]'(by omega), SqL.of g1, by simp⟩, fun x H' ⟨T, y, ex, hT, eH, hx⟩ => ?_⟩⟩
    subst ex eH
    obtain ⟨d, q1, q2⟩ := dtl_at g2 (hx us (SqL.of g1))
    have s := same_new (o := .tup [.int (i : Nat), y]) hT
    exact ⟨_, ⟨d, q1, rfl⟩, s, .tup (fun z => e.wk.al T z hT) (.inl upd_same) (.cons (.int _) (.cons (q2.ext (.of_same s)) .nil))⟩
/-- zip(a list, a list) -/
theorem ei_Z (hK : K = C.K) (h : EvA C tr δ w fun d w1 => ∃ ds es : List D, d = [.lst ds, .lst es] ∧ Ψ (min ds.length es.length) (fun _ => True) (fun i x => ∃ y z, ds[i]? = some y ∧ es[i]? = some z ∧ x = .tup [y, z]) w1) : EvI C (iZip K tr) δ w Ψ := fun fz M U σ H en R k =>
  h fz M U σ H en _ fun d v M1 U1 w1 H1 ⟨ds, es, e, q⟩ x1 k1 d1 => by
    subst hK e
    obtain ⟨v, v', rfl, dv, dv'⟩ := dt2 d1
    obtain ⟨a, vs, rfl, n1, h1, h2⟩ := dt_lst dv
    obtain ⟨b, us, rfl, n2, h3, h4⟩ := dt_lst dv'
    refine ⟨a, b, vs, us, rfl, SqL.of h1, SqL.of h3, k _ [(.ref a, .lst ds), (.ref b, .lst es)] M1 U1 w1 H1 _ _ _ q (((en.stp x1 k1).fz1 dv').fz1 dv) x1 fun i M U δ w σ H e _ => ?_⟩
    obtain ⟨a', us1, e', _, g1, g2⟩ := dt_lst (e.fzs (.ref a, .lst ds) (by simp))
    cases e'
    obtain ⟨b', us2, e', _, g3, g4⟩ := dt_lst (e.fzs (.ref b, .lst es) (by simp))
    cases e'
    have el := g2.length
    have el2 := g4.length
    refine ⟨fun hi => ⟨us1, us2, SqL.of g1, SqL.of g3, by omega⟩, fun hi => ⟨⟨us1, us2, us1[i]'(by omega), us2[i]'(by omega), SqL.of g1, SqL.of g3, by simp, by simp⟩, fun x H' ⟨T, y, z, ex, hT, eH, hx, hz⟩ => ?_⟩⟩
    subst ex eH
    obtain ⟨d, q1, q2⟩ := dtl_at g2 (hx us1 (SqL.of g1))
    obtain ⟨d', q3, q4⟩ := dtl_at g4 (hz us2 (SqL.of g3))
    have s := same_new (o := .tup [y, z]) hT
    exact ⟨_, ⟨d, d', q1, q3, rfl⟩, s, .tup (fun z => e.wk.al T z hT) (.inl upd_same) (.cons (q2.ext (.of_same s)) (.cons (q4.ext (.of_same s)) .nil))⟩
end
end Y
end Wn
end

section
/-! Worlds: comprehensions; while; a def's body. -/
namespace Wn
namespace Y
open PySem PySem.Spec PyProof.Rows L2

/-! ### comprehensions -/
theorem wipe_at {σ : L2.St} : ∀ {vs : List Nat} {i : Nat}, (wipe σ vs)[i]? = if i ∈ vs then (if i < σ.length then some none else none) else σ[i]?
  | [], i => by simp [wipe]
  | v :: vs, i => by
    show ((wipe σ vs).set v none)[i]? = _
    by_cases e : i = v
    · subst e
      rw [if_pos (List.mem_cons_self ..)]
      by_cases hl : i < σ.length
      · rw [if_pos hl, List.getElem?_set_self (by rw [wipe_length]; exact hl)]
      · rw [if_neg hl, List.getElem?_eq_none (by rw [List.length_set, wipe_length]; omega)]
    · rw [List.getElem?_set_ne (Ne.symm e), wipe_at]
      have : (i ∈ v :: vs) ↔ i ∈ vs := by simp [e]
      simp only [this]
theorem wipe_set {σ : L2.St} {vs : List Nat} {i : Nat} {x : Option V} (h : i ∈ vs) : wipe (σ.set i x) vs = wipe σ vs := by
  apply List.ext_getElem?
  intro j
  rw [wipe_at, wipe_at, List.length_set]
  by_cases e : j ∈ vs
  · rw [if_pos e, if_pos e]
  · rw [if_neg e, if_neg e, List.getElem?_set_ne (fun z => e (by rw [← z]; exact h))]
theorem wipe_wipe {σ : L2.St} {vs : List Nat} : wipe (wipe σ vs) vs = wipe σ vs := by
  apply List.ext_getElem?
  intro j
  rw [wipe_at, wipe_at, wipe_length]
  by_cases e : j ∈ vs
  · rw [if_pos e, if_pos e]
  · rw [if_neg e, if_neg e]
def wipeS (δ : List Sl) : List Nat → List Sl
  | [] => δ
  | v :: vs => (wipeS δ vs).set v .no
section
variable {C : Ctx} {fz : List (V × D)} {M U : Addr → Prop} {δ : List Sl} {w : World} {σ : L2.St} {H : Hp} {vs : List Nat} {g : TG} {i : Nat}
theorem Env.wipe (en : Env C fz M U δ w σ H) : ∀ vs : List Nat, Env C fz M U (wipeS δ vs) w (L2.wipe σ vs) H
  | [] => en
  | v :: vs => (Env.wipe en vs).setNo
def GC (C : Ctx) (g : TG) (x : D) (vs : List Nat) (δ : List Sl) (w : World) (Φ : List Sl → World → Prop) : Prop := ∀ (fz : List (V × D)) (M U : Addr → Prop) (σ : L2.St) (H : Hp) (v : V), Env C fz M U δ w σ H → Dt C.K M H v x → ∀ Q : L2.St → Hp → Prop,
  (∀ δ' σ', Φ δ' w → Env C fz M U δ' w σ' H → L2.wipe σ' vs = L2.wipe σ vs → Q σ' H) → g v σ H Q
def GCs (C : Ctx) (g : TGs) (xs : List D) (vs : List Nat) (δ : List Sl) (w : World) (Φ : List Sl → World → Prop) : Prop := ∀ (fz : List (V × D)) (M U : Addr → Prop) (σ : L2.St) (H : Hp) (us : List V), Env C fz M U δ w σ H → DtL C.K M H us xs → ∀ Q : L2.St → Hp → Prop,
  (∀ δ' σ', Φ δ' w → Env C fz M U δ' w σ' H → L2.wipe σ' vs = L2.wipe σ vs → Q σ' H) → g us σ H Q
theorem gc_name {x : D} {Φ : List Sl → World → Prop} (hi : i ∈ vs) (h : Φ (δ.set i (.d x)) w) : GC C (gName i) x vs δ w Φ := fun fz M U σ H v en dv Q k => k _ _ h (en.set dv) (wipe_set hi)
theorem gcs_nil {Φ : List Sl → World → Prop} (h : Φ δ w) : GCs C gNil [] vs δ w Φ := fun fz M U σ H v en dv Q k => by
  cases dv
  exact ⟨rfl, k _ _ h en rfl⟩
theorem gcs_cons {d : D} {ds : List D} {gs : TGs} {Φ : List Sl → World → Prop} (h : GC C g d vs δ w fun δ' w' => GCs C gs ds vs δ' w Φ) : GCs C (gCons g gs) (d :: ds) vs δ w Φ := fun fz M U σ H v en dv Q k => by
  cases dv with
  | cons h1 h2 => exact ⟨_, _, rfl, h fz M U σ H _ en h1 _ fun δ' σ' q e ew => q fz M U σ' H _ e h2 Q fun δ2 σ2 q2 e2 ew2 => k δ2 σ2 q2 e2 (ew2.trans ew)⟩
theorem gc_tup {K : PySem.W.Frag} (hK : K = C.K) {n : Nat} {gs : TGs} {d : D} {Φ : List Sl → World → Prop} (h : ∃ ds, d = .tup ds ∧ ds.length = n ∧ GCs C gs ds vs δ w Φ) : GC C (gTup K n gs) d vs δ w Φ := fun fz M U σ H v en dv Q k => by
  subst hK
  obtain ⟨ds, rfl, hl, h⟩ := h
  cases dv with
  | @tup a us _ n1 h1 h2 => exact ⟨a, us, rfl, .inl h1, h2.length.trans hl, h fz M U σ H _ en h2 Q k⟩
  | @ktup a us _ h1 h2 => exact ⟨a, us, rfl, h1 H, h2.length.trans hl, h fz M U σ H _ en h2 Q k⟩
end
section
variable {K : PySem.W.Frag} {M U : Addr → Prop} {H : Hp} {w : World} {p : Addr} {ho : HO}
/-- what is hidden is written -/
theorem WOk.hid_put (k : WOk K M U w H) (m : M p) (u : ¬ U p) : WOk K M U w (L2.upd H p ho) := by
  obtain ⟨al, um, v, ow, h1, h2, h3, h4⟩ := k
  refine ⟨fun a z => ?_, um, v, ow, fun a o e => ⟨(h1 a o e).1, (h1 a o e).2.to (fun _ z => z) (upd_ext m) fun x hx => ?_⟩, h2, h3, h4⟩
  · by_cases e : a = p
    · rw [e, upd_same]; exact fun z => by cases z
    · rw [upd_ne e]; exact al a z
  · rw [upd_ne (fun z => u (by rw [← z]; exact (h1 a o e).1))]; exact hx
/-- what is hidden becomes a cell -/
theorem WOk.adopt {o : MO1} (k : WOk K M U w H) (m : M p) (u : ¬ U p) (c : CellOk K M H p o) : WOk K M (fun a => U a ∨ a = p) (w.set p (.p o)) H := by
  obtain ⟨al, um, v, ow, h1, h2, h3, h4⟩ := k
  have vp : v p = none := Classical.byContradiction fun z => by
    obtain ⟨o, e⟩ := Option.ne_none_iff_exists'.mp z
    exact u (h1 p o e).1
  refine ⟨al, fun a z => z.elim (um a) (fun e => by rw [e]; exact m), fun a => if a = p then some o else v a, fun a => if a = p then some p else ow a, fun a x e => ?_, fun a z => ?_, fun a x e => ?_, fun a P e => ?_⟩
  · by_cases q : a = p
    · simp only [q, if_true] at e; cases e; rw [q]; exact ⟨.inr rfl, c⟩
    · simp only [q, if_false] at e; exact ⟨.inl (h1 a x e).1, (h1 a x e).2⟩
  · by_cases q : a = p
    · rw [q]; exact ⟨.inr rfl, by simp⟩
    · rw [set_ne q] at z; simp only [q, if_false]; exact ⟨.inl (h2 a z).1, (h2 a z).2⟩
  · by_cases q : a = p
    · rw [q, set_same] at e; cases e; simp [q]
    · rw [set_ne q] at e; simp only [q, if_false]; exact h3 a x e
  · have q : a ≠ p := fun z => by rw [z, set_same] at e; cases e
    rw [set_ne q] at e
    have : Y.part (fun a => if a = p then some o else v a) (fun a => if a = p then some p else ow a) a = Y.part v ow a := by
      funext x
      unfold Y.part
      by_cases hx : x = p
      · rw [hx, vp]
        simp only [if_true]
        rw [if_neg (fun z => q (Option.some.inj z).symm)]
        split <;> rfl
      · simp only [hx, if_false]
    rw [this]
    exact h4 a P e
end
section
variable {C : Ctx} {δ : List Sl} {w : World} {P : DE} {te tl : TE} {tt : TT} {tr : TA} {t : TS} {g : TG} {wi : TI} {K : PySem.W.Frag} {vs : List Nat} {Φ : D → World → Prop}
/-- [.. for .. in .. if ..], under way -/
theorem en_lc (W : Nat → List D → World → Prop) (h : EvI C wi δ w fun n G X w1 => W 0 [] w1 ∧ n ≤ 99999 ∧ (∀ i acc w', W i acc w' → G w') ∧
      (∀ (i : Nat) x acc w', i < n → X i x → W i acc w' → GC C g x vs (wipeS δ vs) w' fun δ2 w2 => EvT C tt δ2 w2 fun b w3 => (b = true → EvD C te δ2 w3 fun y w4 => W (i + 1) (acc ++ [y]) w4) ∧ (b = false → W (i + 1) acc w3)) ∧
      ∀ acc w', W n acc w' → ∀ p, w' p = none → Φ (.adr p) (w'.set p (.p (.lst acc)))) : EvD C (tLc wi g tt te vs) δ w Φ := fun fz M U σ H en Q k =>
  h fz M U σ H en _ fun J q M1 U1 w1 H1 n G X ⟨h0, hn, hG, hs, hd⟩ e1 x1 wk D hD => by
    obtain ⟨k0, x0⟩ := e1.wk.hide hD (same_new (o := .lst []) hD) (by rw [upd_same]; exact fun z => by cases z)
    have nU : ¬ U1 D := fun z => e1.wk.al D (e1.wk.um D z) hD
    refine ⟨fun i m H' => m = n - i ∧ i ≤ n ∧ ∃ acc M' U' w', acc.length ≤ i ∧ W i acc w' ∧ Stp M1 U1 H1 M' U' H' ∧ WOk C.K M' U' w' H' ∧ M' D ∧ ¬ U' D ∧ ∃ us, H' D = some (.lst us) ∧ DtL C.K M' H' us acc,
      ⟨_, rfl, Nat.zero_le _, [], _, U1, w1, Nat.le_refl _, h0, x0, k0, .inr rfl, nU, [], upd_same, .nil⟩, ?_⟩
    rintro i m H' ⟨rfl, hi, acc, M', U', w', la, hw, x', k', mD, uD, us, hus, dl⟩
    have e' := e1.stp x' k'
    obtain ⟨hst, hgo⟩ := wk i M' U' δ w' σ H' e' (hG i acc w' hw)
    by_cases hlt : i < n
    · obtain ⟨g1, g2⟩ := hgo hlt
      refine .inr ⟨g1, fun H2 => ∃ acc M2 U2 w2, acc.length ≤ i + 1 ∧ W (i + 1) acc w2 ∧ Stp M1 U1 H1 M2 U2 H2 ∧ WOk C.K M2 U2 w2 H2 ∧ M2 D ∧ ¬ U2 D ∧ ∃ us, H2 D = some (.lst us) ∧ DtL C.K M2 H2 us acc,
        fun H2 ⟨acc2, M2, U2, w2, la2, hw2, r⟩ => ⟨_, by omega, rfl, hlt, acc2, M2, U2, w2, la2, hw2, r⟩, fun x H2 hy => ?_⟩
      obtain ⟨d, hx, s, dx⟩ := g2 x H2 hy
      have x2 : Stp M' U' H' M' U' H2 := .of_same s
      have k2 := k'.same s
      have ew := (e'.stp x2 k2).wipe vs
      refine hs i d acc w' hlt hx hw (q ++ fz) M' U' _ H2 x ew dx _ fun δ2 σ2 hq e2 eq2 => ⟨eq2.trans wipe_wipe, hq (q ++ fz) M' U' σ2 H2 e2 _ fun b M3 U3 w3 H3 hb x3 k3 => ?_⟩
      have keepD : ∀ {M4 U4 : Addr → Prop} {H4 : Hp}, Stp M' U' H' M4 U4 H4 → M4 D ∧ ¬ U4 D ∧ H4 D = some (.lst us) := fun {M4 U4 H4} y => ⟨y.hid D mD uD, fun z => (y.u D z).elim uD fun e => (by rw [e] at hus; cases hus), y.keep D _ uD hus⟩
      have x23 := e'.tr x2 x3
      cases b with
      | true =>
        refine hb.1 rfl (q ++ fz) M3 U3 σ2 H3 (e2.stp x3 k3) _ fun y v M4 U4 w4 H4 hw4 x4 k4 d4 => ?_
        have x24 := e'.tr x23 x4
        obtain ⟨m4, u4, h4⟩ := keepD x24
        refine ⟨us, h4, by rw [dl.length]; exact Nat.lt_of_le_of_lt la (Nat.lt_of_lt_of_le hlt (Nat.le_trans hn (by decide))), acc ++ [y], M4, U4, w4, by rw [List.length_append]; exact Nat.add_le_add_right la 1, hw4, ?_, k4.hid_put m4 u4, m4, u4, us ++ [v], upd_same, ?_⟩
        · have z := e1.tr x' x24
          exact ⟨fun a o n e => by rw [upd_ne (fun r => by rw [r, hD] at e; cases e)]; exact z.keep a o n e, fun a e => by
            by_cases r : a = D
            · rw [r, upd_same]; exact fun z => by cases z
            · rw [upd_ne r]; exact z.live a e, z.m, z.u, z.hid⟩
        · exact ((stp_dtl k'.um x24 dl).append (.cons d4 .nil)).ext (upd_ext m4)
      | false =>
        obtain ⟨m3, u3, h3⟩ := keepD x23
        exact ⟨acc, M3, U3, w3, Nat.le_succ_of_le la, hb.2 rfl, e1.tr x' x23, k3, m3, u3, us, h3, stp_dtl k'.um x23 dl⟩
    · have ei : i = n := by omega
      subst ei
      refine .inl ⟨hst (Nat.le_refl _), ?_⟩
      have wD : w' D = none := Classical.byContradiction fun z => uD (k'.dom z)
      exact k (.adr D) (.ref D) M' (fun a => U' a ∨ a = D) _ H' (hd acc w' hw D wD) (en.tr x1 ⟨x'.keep, x'.live, x'.m, fun a z => z.elim (x'.u a) fun e => .inr (by rw [e]; exact hD), x'.hid⟩ |> fun z => ⟨z.keep, z.live, z.m, z.u, z.hid⟩)
        (k'.adopt mD uD ⟨us, hus, dl⟩) (.adr D)
/-- .. done at once -/
theorem ev_lc (W : Nat → List D → World → Prop) (h : EvI C wi δ w fun n G X w1 => W 0 [] w1 ∧ n ≤ 99999 ∧ (∀ i acc w', W i acc w' → G w') ∧
      (∀ (i : Nat) x acc w', i < n → X i x → W i acc w' → GC C g x vs (wipeS δ vs) w' fun δ2 w2 => EvT C tt δ2 w2 fun b w3 => (b = true → EvD C te δ2 w3 fun y w4 => W (i + 1) (acc ++ [y]) w4) ∧ (b = false → W (i + 1) acc w3)) ∧
      ∀ acc w', W n acc w' → Φ (.lst acc) w') : EvD C (tLc wi g tt te vs) δ w Φ :=
  ev_frz (en_lc W fun fz M U σ H en R k => h fz M U σ H en R fun J q M' U' w' H' n G X ⟨a, b, c, d, e⟩ => k J q M' U' w' H' n G X ⟨a, b, c, d, fun acc w2 hw p hp => ⟨p, acc, rfl, set_same, by rw [set_del hp]; exact e acc w2 hw⟩⟩)
/-- while ..: W the invariant with its measure -/
theorem b_while (W : Nat → List Sl → World → Prop) (n0 : Nat) (h0 : W n0 δ w) (hs : ∀ n δ' w', W n δ' w' → EvT C tt δ' w' fun b w1 =>
      (b = true → Blk C t δ' w1 { nx := fun δ2 w2 => ∃ m, m < n ∧ W m δ2 w2, ct := fun δ2 w2 => ∃ m, m < n ∧ W m δ2 w2, bk := P.nx, rt := P.rt }) ∧ (b = false → P.nx δ' w1)) : Blk C (tWhile tt t) δ w P := fun fz M U σ H en D' l => by
  refine ⟨fun m σ' H' => ∃ δ' M' U' w', W m δ' w' ∧ Env C fz M' U' δ' w' σ' H', ⟨n0, δ, M, U, w, h0, en⟩, ?_⟩
  rintro m σ' H' ⟨δ', M', U', w', hw, e'⟩
  refine hs m δ' w' hw fz M' U' σ' H' e' _ fun b M1 U1 w1 H1 hb x1 k1 => ?_
  cases b with
  | true =>
    rw [if_pos rfl]
    exact ⟨fun σ2 H2 => ∃ m', m' < m ∧ ∃ δ2 M2 U2 w2, W m' δ2 w2 ∧ Env C fz M2 U2 δ2 w2 σ2 H2, fun σ2 H2 ⟨m', hm, r⟩ => ⟨m', hm, r⟩, hb.1 rfl fz M1 U1 σ' H1 (e'.stp x1 k1) _
      ⟨fun M3 U3 σ3 H3 δ3 w3 ⟨m', hm, q3⟩ e3 => ⟨m', hm, δ3, M3, U3, w3, q3, e3⟩, l.rt, l.nx, fun M3 U3 σ3 H3 δ3 w3 ⟨m', hm, q3⟩ e3 => ⟨m', hm, δ3, M3, U3, w3, q3, e3⟩⟩⟩
  | false =>
    rw [if_neg (by decide)]
    exact l.nx M1 U1 σ' H1 δ' w1 (hb.2 rfl) (e'.stp x1 k1)
end

/-! ### a def's body -/
def slots (n : Nat) (ds : List D) : List Sl := ds.map Sl.d ++ List.replicate (n - ds.length) Sl.no
theorem start_env {K : PySem.W.Frag} {M U : Addr → Prop} {w : World} {H : Hp} {X : Ex} {E : XK} {N : List Str} {vs : List V} {ds : List D} (k : WOk K M U w H) (d : DtL K M H vs ds) (tx : Takes K M U H X E) :
    Env ⟨K, M, U, H, X, E⟩ [] M U (slots N.length ds) w (start N vs) H where
  ok := ⟨k.al, k.um, tx⟩
  ln := by
    have := d.length
    simp [slots, L2.start, this]
  sl := fun j s h => by
    unfold slots at h
    unfold L2.start
    by_cases hj : j < ds.length
    · rw [List.getElem?_append_left (by simpa using hj), List.getElem?_map] at h
      cases e : ds[j]? with
      | none => rw [e] at h; cases h
      | some x =>
        rw [e] at h
        cases h
        obtain ⟨v, h1, h2⟩ := d.get e
        exact ⟨some v, by rw [List.getElem?_append_left (by simpa [d.length] using hj), List.getElem?_map, h1]; rfl, v, rfl, h2⟩
    · rw [List.getElem?_append_right (by simpa using hj)] at h
      have hs : s = .no := by
        have := List.mem_of_getElem? h
        exact (List.mem_replicate.mp this).2
      subst hs
      have hl := lt_of_some h
      rw [List.length_map] at h hl
      rw [List.length_replicate] at hl
      refine ⟨none, ?_, trivial⟩
      rw [List.getElem?_append_right (by simpa [d.length] using hj), List.length_map, d.length, List.getElem?_replicate, if_pos (by omega)]
  fzs := fun p h => by cases h
  st := .refl
  wk := k
/-- a body keeps its contract -/
theorem lift_of {K : PySem.W.Frag} {F : FSpec} {N : List Str} {t : XK → TS} {vs : List V} {H : Hp} {Q : VK} {E : XK}
    (h : ∀ (C : Ctx) (ds : List D) (w : World) (Φ : D → World → Prop), C.K = K → C.E = E → F ds w Φ C.X → Blk C (t E) (slots N.length ds) w { nx := fun _ w' => Φ .non w', rt := Φ })
    (hs : lift K F vs H Q E) : t E { nx := fun _ H' => Q .non H', rt := Q } (start N vs) H := by
  obtain ⟨M, U, ds, w, X, Φ, k, d, tx, f, kk⟩ := hs
  exact h ⟨K, M, U, H, X, E⟩ ds w Φ rfl rfl f [] M U _ H (start_env (N := N) k d tx) _ ⟨fun M' U' σ' H' δ' w' p e => kk .non .non M' U' w' H' p e.st e.wk .non, fun M' U' v H' d' w' p x k' d3 => kk d' v M' U' w' H' p x k' d3, fun _ _ _ _ _ _ z => z.elim, fun _ _ _ _ _ _ z => z.elim⟩
end Y
end Wn
end

section
/-! Worlds: dicts; a law's start. -/
namespace Wn
namespace Y
open PySem PySem.Spec PyProof.Rows L2

def valG {β : Type} (kvs : List (Key × β)) (k : Key) : Option β := (kvs.find? fun kv => decide (kv.1 = k)).map (·.2)
def putG {β : Type} (kvs : List (Key × β)) (k : Key) (v : β) : List (Key × β) := if (kvs.any fun kv => decide (kv.1 = k)) = true then kvs.map (fun kv => if kv.1 = k then (kv.1, v) else kv) else kvs ++ [(k, v)]
def dropG {β : Type} (kvs : List (Key × β)) (k : Key) : List (Key × β) := kvs.filter fun kv => decide (kv.1 ≠ k)
def kD : Key → D
  | .inl i => .int i
  | .inr x => .str x
theorem kD_kV {K : PySem.W.Frag} {M : Addr → Prop} {H : Hp} {v : V} {k : Key} (h : Dt K M H v (kD k)) : v = kV k := by
  cases k with
  | inl i => cases h; rfl
  | inr x => cases h; rfl
theorem dt_kV {K : PySem.W.Frag} {M : Addr → Prop} {H : Hp} (k : Key) : Dt K M H (kV k) (kD k) := by
  cases k with
  | inl i => exact .int i
  | inr x => exact .str x
section
variable {K : PySem.W.Frag} {M U : Addr → Prop} {H : Hp} {w : World} {p : Addr}
theorem dtk_len : ∀ {us : List (Key × V)} {kvs : List (Key × D)}, DtK K M H us kvs → us.length = kvs.length
  | _, _, .nil => rfl
  | _, _, .cons _ t => congrArg (· + 1) (dtk_len t)
theorem dtk_val {k : Key} {d : D} : ∀ {us : List (Key × V)} {kvs : List (Key × D)}, DtK K M H us kvs → valG kvs k = some d → ∃ v, valV us k = some v ∧ Dt K M H v d
  | _, _, .nil, e => by cases e
  | _, _, @DtK.cons _ _ _ j v d' us ds h t, e => by
    unfold valG at e
    unfold valV
    rw [List.find?_cons] at e ⊢
    by_cases q : j = k
    · rw [decide_eq_true (show (j, d').1 = k from q)] at e
      rw [decide_eq_true (show (j, v).1 = k from q)]
      cases e
      exact ⟨v, rfl, h⟩
    · rw [decide_eq_false (show ¬ (j, d').1 = k from q)] at e
      rw [decide_eq_false (show ¬ (j, v).1 = k from q)]
      exact dtk_val t e
theorem dtk_no {k : Key} : ∀ {us : List (Key × V)} {kvs : List (Key × D)}, DtK K M H us kvs → valG kvs k = none → valV us k = none
  | _, _, .nil, _ => rfl
  | _, _, @DtK.cons _ _ _ j v d' us ds h t, e => by
    unfold valG at e
    unfold valV
    rw [List.find?_cons] at e ⊢
    by_cases q : j = k
    · rw [decide_eq_true (show (j, d').1 = k from q)] at e
      cases e
    · rw [decide_eq_false (show ¬ (j, d').1 = k from q)] at e
      rw [decide_eq_false (show ¬ (j, v).1 = k from q)]
      exact dtk_no t e
theorem dtk_any {k : Key} : ∀ {us : List (Key × V)} {kvs : List (Key × D)}, DtK K M H us kvs → (us.any fun kv => decide (kv.1 = k)) = kvs.any fun kv => decide (kv.1 = k)
  | _, _, .nil => rfl
  | _, _, .cons h t => by rw [List.any_cons, List.any_cons, dtk_any t]
theorem dtk_map {k : Key} {v : V} {d : D} (hv : Dt K M H v d) : ∀ {us : List (Key × V)} {kvs : List (Key × D)}, DtK K M H us kvs → DtK K M H (us.map fun kv => if kv.1 = k then (kv.1, v) else kv) (kvs.map fun kv => if kv.1 = k then (kv.1, d) else kv)
  | _, _, .nil => .nil
  | _, _, @DtK.cons _ _ _ j u d' us ds h t => by
    show DtK K M H ((if j = k then (j, v) else (j, u)) :: _) ((if j = k then (j, d) else (j, d')) :: _)
    by_cases q : j = k
    · rw [if_pos q, if_pos q]; exact .cons hv (dtk_map hv t)
    · rw [if_neg q, if_neg q]; exact .cons h (dtk_map hv t)
theorem dtk_app : ∀ {us us' : List (Key × V)} {kvs kvs' : List (Key × D)}, DtK K M H us kvs → DtK K M H us' kvs' → DtK K M H (us ++ us') (kvs ++ kvs')
  | _, _, _, _, .nil, h => h
  | _, _, _, _, .cons a t, h => .cons a (dtk_app t h)
theorem dtk_put {k : Key} {v : V} {d : D} (hv : Dt K M H v d) {us : List (Key × V)} {kvs : List (Key × D)} (h : DtK K M H us kvs) : DtK K M H (putK us k v) (putG kvs k d) := by
  unfold putK putG
  rw [dtk_any h]
  split
  · exact dtk_map hv h
  · exact dtk_app h (.cons hv .nil)
theorem dtk_drop {k : Key} : ∀ {us : List (Key × V)} {kvs : List (Key × D)}, DtK K M H us kvs → DtK K M H (dropK us k) (dropG kvs k)
  | _, _, .nil => .nil
  | _, _, @DtK.cons _ _ _ j u d' us ds h t => by
    unfold dropK dropG
    rw [List.filter_cons, List.filter_cons]
    by_cases q : j = k
    · rw [if_neg (by simp [q]), if_neg (by simp [q])]; exact dtk_drop t
    · rw [if_pos (by simp [q]), if_pos (by simp [q])]; exact .cons h (dtk_drop t)
theorem dtk_at : ∀ {us : List (Key × V)} {kvs : List (Key × D)} {i : Nat} {k : Key} {v : V}, DtK K M H us kvs → us[i]? = some (k, v) → ∃ d, kvs[i]? = some (k, d) ∧ Dt K M H v d
  | _, _, _, _, _, .nil, e => by simp at e
  | _, _, 0, _, _, .cons h _, e => by simp at e; obtain ⟨rfl, rfl⟩ := e; exact ⟨_, rfl, h⟩
  | _, _, i + 1, _, _, .cons _ t, e => by
    obtain ⟨d, h1, h2⟩ := dtk_at (i := i) t (by simpa using e)
    exact ⟨d, by simpa using h1, h2⟩
theorem dtk_keys : ∀ {us : List (Key × V)} {kvs : List (Key × D)}, DtK K M H us kvs → us.map (·.1) = kvs.map (·.1)
  | _, _, .nil => rfl
  | _, _, .cons _ t => by rw [List.map_cons, List.map_cons, dtk_keys t]
/-- a dict, read -/
theorem dct_rd {lk : Option (Obj × List (Key × V))} {kvs : List (Key × D)} (c : CellOk K M H p (.dct lk kvs)) : ∃ us, Rd H p (.dK us) ∧ DtK K M H us kvs := by
  cases lk with
  | none => obtain ⟨us, h1, h2⟩ := c; exact ⟨us, .inl h1, h2⟩
  | some L => exact ⟨L.2, .inr ⟨L.1, c.1⟩, c.2⟩
theorem put_dct {us : List (Key × V)} {kvs ys : List (Key × D)} (k : WOk K M U w H) (h : w p = some (.p (.dct none kvs))) (d : DtK K M H us ys) : WOk K M U (w.set p (.p (.dct none ys))) (L2.upd H p (.dK us)) ∧ Stp M U H M U (L2.upd H p (.dK us)) :=
  k.put h ⟨us, upd_same, d.to (fun _ z => z) (upd_ext (k.um p (k.cell h).1))⟩
theorem new_dct {us : List (Key × V)} {kvs : List (Key × D)} (k : WOk K M U w H) (hp : H p = none) (d : DtK K M H us kvs) :
    WOk K (fun a => M a ∨ a = p) (fun a => U a ∨ a = p) (w.set p (.p (.dct none kvs))) (L2.upd H p (.dK us)) ∧ Stp M U H (fun a => M a ∨ a = p) (fun a => U a ∨ a = p) (L2.upd H p (.dK us)) :=
  k.new (o' := .dct none kvs) (same_new hp) hp (by rw [upd_same]; exact fun z => by cases z) ⟨us, upd_same, (d.plus hp).to (fun _ z => z) (.of_same (same_new hp))⟩
end
section
variable {C : Ctx} {δ : List Sl} {w : World} {P : DE} {td ty tv tx te : TE} {t : TS} {Φ : D → World → Prop}
theorem ev_dget (h : EvD C td δ w fun o w1 => EvD C ty δ w1 fun y w2 => ∃ p lk kvs k d, o = .adr p ∧ y = kD k ∧ w2 p = some (.p (.dct lk kvs)) ∧ valG kvs k = some d ∧ Φ d w2) : EvD C (tDGet td ty) δ w Φ := fun fz M U σ H en Q k =>
  h fz M U σ H en _ fun o x M1 U1 w1 H1 h1 x1 k1 d1 => h1 fz M1 U1 σ H1 (en.stp x1 k1) _ fun y v M2 U2 w2 H2 ⟨p, lk, kvs, kk, d, e1, e2, hp, hv, q⟩ x2 k2 d2 => by
    subst e1 e2
    cases d1
    obtain ⟨us, rd, dk⟩ := dct_rd (k2.cell hp).2
    obtain ⟨u, g1, g2⟩ := dtk_val dk hv
    exact ⟨p, u, rfl, .inl ⟨us, kk, rd, kD_kV d2, g1.symm⟩, k d u M2 U2 w2 H2 q (en.tr x1 x2) k2 g2⟩
theorem ev_din (h : EvD C ty δ w fun y w1 => EvD C td δ w1 fun o w2 => ∃ p lk kvs k, o = .adr p ∧ y = kD k ∧ w2 p = some (.p (.dct lk kvs)) ∧ Φ (.bl (valG kvs k).isSome) w2) : EvD C (tDIn ty td) δ w Φ := fun fz M U σ H en Q k =>
  h fz M U σ H en _ fun y v M1 U1 w1 H1 h1 x1 k1 d1 => h1 fz M1 U1 σ H1 (en.stp x1 k1) _ fun o x M2 U2 w2 H2 ⟨p, lk, kvs, kk, e1, e2, hp, q⟩ x2 k2 d2 => by
    subst e1 e2
    cases d2
    obtain ⟨us, rd, dk⟩ := dct_rd (k2.cell hp).2
    refine ⟨p, valV us kk, rfl, .inl ⟨us, kk, rd, kD_kV d1, rfl⟩, ?_⟩
    cases e : valG kvs kk with
    | none => rw [dtk_no dk e]; rw [e] at q; exact k _ _ M2 U2 w2 H2 q (en.tr x1 x2) k2 (.bl _)
    | some d => obtain ⟨u, g1, _⟩ := dtk_val dk e; rw [g1]; rw [e] at q; exact k _ _ M2 U2 w2 H2 q (en.tr x1 x2) k2 (.bl _)
theorem ev_dni (h : EvD C ty δ w fun y w1 => EvD C td δ w1 fun o w2 => ∃ p lk kvs k, o = .adr p ∧ y = kD k ∧ w2 p = some (.p (.dct lk kvs)) ∧ Φ (.bl (!(valG kvs k).isSome)) w2) : EvD C (tDNotIn ty td) δ w Φ := fun fz M U σ H en Q k =>
  h fz M U σ H en _ fun y v M1 U1 w1 H1 h1 x1 k1 d1 => h1 fz M1 U1 σ H1 (en.stp x1 k1) _ fun o x M2 U2 w2 H2 ⟨p, lk, kvs, kk, e1, e2, hp, q⟩ x2 k2 d2 => by
    subst e1 e2
    cases d2
    obtain ⟨us, rd, dk⟩ := dct_rd (k2.cell hp).2
    refine ⟨p, valV us kk, rfl, .inl ⟨us, kk, rd, kD_kV d1, rfl⟩, ?_⟩
    cases e : valG kvs kk with
    | none => rw [dtk_no dk e]; rw [e] at q; exact k _ _ M2 U2 w2 H2 q (en.tr x1 x2) k2 (.bl _)
    | some d => obtain ⟨u, g1, _⟩ := dtk_val dk e; rw [g1]; rw [e] at q; exact k _ _ M2 U2 w2 H2 q (en.tr x1 x2) k2 (.bl _)
theorem b_dput (h : EvD C tv δ w fun d w1 => EvD C td δ w1 fun o w2 => EvD C ty δ w2 fun y w3 => ∃ p kvs k, o = .adr p ∧ y = kD k ∧ w3 p = some (.p (.dct none kvs)) ∧ kvs.length < 100000 ∧ P.nx δ (w3.set p (.p (.dct none (putG kvs k d))))) : Blk C (sDPut td ty tv) δ w P := fun fz M U σ H en D' l =>
  h fz M U σ H en _ fun d v M1 U1 w1 H1 h1 x1 k1 d1 => h1 fz M1 U1 σ H1 (en.stp x1 k1) _ fun o x M2 U2 w2 H2 h2 x2 k2 d2 => h2 fz M2 U2 σ H2 (en.stp (en.tr x1 x2) k2) _ fun y u M3 U3 w3 H3 ⟨p, kvs, kk, e1, e2, hp, hl, q⟩ x3 k3 d3 => by
    subst e1 e2
    cases d2
    obtain ⟨up, us, g1, g2⟩ := k3.cell hp
    obtain ⟨k4, x4⟩ := put_dct k3 hp (dtk_put (k := kk) (stp_dt k2.um x3 (stp_dt k1.um x2 d1)) g2)
    exact ⟨p, _, rfl, .inl ⟨us, kk, g1, kD_kV d3, by rw [dtk_len g2]; exact Nat.lt_of_lt_of_le hl (by decide), rfl⟩, l.nx M3 U3 σ _ δ _ q (en.stp (en.tr (en.tr (en.tr x1 x2) x3) x4) k4)⟩
/-- d[k] op= e, of ints -/
theorem b_daug {rd : V → V → Hp → VK → Prop} (f : Int → Int → Int) (hrd : ∀ i j H Q, Q (.int (f i j)) H → rd (.int i) (.int j) H Q) (h : EvD C td δ w fun o w1 => EvD C ty δ w1 fun y w2 => ∃ p kvs k a, o = .adr p ∧ y = kD k ∧ w2 p = some (.p (.dct none kvs)) ∧ valG kvs k = some (.int a) ∧ kvs.length < 100000 ∧
      EvD C tv δ w2 fun e w3 => ∃ b, e = .int b ∧ w3 p = some (.p (.dct none kvs)) ∧ P.nx δ (w3.set p (.p (.dct none (putG kvs k (.int (f a b))))))) : Blk C (sDAug td ty tv rd) δ w P := fun fz M U σ H en D' l =>
  h fz M U σ H en _ fun o x M1 U1 w1 H1 h1 x1 k1 d1 => h1 fz M1 U1 σ H1 (en.stp x1 k1) _ fun y v M2 U2 w2 H2 ⟨p, kvs, kk, a, e1, e2, hp, hv, hl, h2⟩ x2 k2 d2 => by
    subst e1 e2
    cases d1
    obtain ⟨up, us, g1, g2⟩ := k2.cell hp
    obtain ⟨u, g3, g4⟩ := dtk_val g2 hv
    cases g4
    refine ⟨p, .int a, rfl, .inl ⟨us, kk, .inl g1, kD_kV d2, g3.symm⟩, h2 fz M2 U2 σ H2 (en.stp (en.tr x1 x2) k2) _ fun e z M3 U3 w3 H3 ⟨b, e3, hp3, q⟩ x3 k3 d3 => ?_⟩
    subst e3
    cases d3
    obtain ⟨up3, us3, g5, g6⟩ := k3.cell hp3
    obtain ⟨k4, x4⟩ := put_dct k3 hp3 (dtk_put (k := kk) (.int (f a b)) g6)
    exact hrd a b H3 _ ⟨_, .inl ⟨us3, kk, g5, kD_kV d2, by rw [dtk_len g6]; exact Nat.lt_of_lt_of_le hl (by decide), rfl⟩, l.nx M3 U3 σ _ δ _ q (en.stp (en.tr (en.tr (en.tr x1 x2) x3) x4) k4)⟩
theorem ev_dnew (q : ∀ p, w p = none → Φ (.adr p) (w.set p (.p (.dct none [])))) : EvD C tDNewK δ w Φ := fun fz M U σ H en Q k p hp => by
  obtain ⟨k2, x2⟩ := new_dct (us := []) (kvs := []) en.wk hp .nil
  exact k _ _ _ _ _ _ (q p (en.wk.free hp)) x2 k2 (.adr p)
/-- d.get(k, x) -/
theorem ev_dget2 (h : EvD C td δ w fun o w1 => ∃ p lk kvs, o = .adr p ∧ w1 p = some (.p (.dct lk kvs)) ∧ EvD C ty δ w1 fun y w2 => EvD C tx δ w2 fun z w3 => ∃ lk kvs k, y = kD k ∧ w3 p = some (.p (.dct lk kvs)) ∧ Φ ((valG kvs k).getD z) w3) : EvD C (tDGet2 td ty tx) δ w Φ := fun fz M U σ H en Q k =>
  h fz M U σ H en _ fun o x M1 U1 w1 H1 ⟨p, lk, kvs, e1, hp, h1⟩ x1 k1 d1 => by
    subst e1
    cases d1
    obtain ⟨us, rd, dk⟩ := dct_rd (k1.cell hp).2
    refine ⟨p, rfl, .inl ⟨us, rd⟩, h1 fz M1 U1 σ H1 (en.stp x1 k1) _ fun y v M2 U2 w2 H2 h2 x2 k2 d2 => h2 fz M2 U2 σ H2 (en.stp (en.tr x1 x2) k2) _ fun z u M3 U3 w3 H3 ⟨lk3, kvs3, kk, e2, hp3, q⟩ x3 k3 d3 => ?_⟩
    subst e2
    obtain ⟨us3, rd3, dk3⟩ := dct_rd (k3.cell hp3).2
    refine ⟨valV us3 kk, .inl ⟨us3, kk, rd3, kD_kV d2, rfl⟩, ?_⟩
    cases e : valG kvs3 kk with
    | none => rw [dtk_no dk3 e]; rw [e] at q; exact k _ _ M3 U3 w3 H3 q (en.tr (en.tr x1 x2) x3) k3 d3
    | some d => obtain ⟨u', g1, g2⟩ := dtk_val dk3 e; rw [g1]; rw [e] at q; exact k _ _ M3 U3 w3 H3 q (en.tr (en.tr x1 x2) x3) k3 g2
theorem ev_dget1 (h : EvD C td δ w fun o w1 => ∃ p lk kvs, o = .adr p ∧ w1 p = some (.p (.dct lk kvs)) ∧ EvD C ty δ w1 fun y w2 => ∃ lk kvs k, y = kD k ∧ w2 p = some (.p (.dct lk kvs)) ∧ Φ ((valG kvs k).getD .non) w2) : EvD C (tDGet1 td ty) δ w Φ := fun fz M U σ H en Q k =>
  h fz M U σ H en _ fun o x M1 U1 w1 H1 ⟨p, lk, kvs, e1, hp, h1⟩ x1 k1 d1 => by
    subst e1
    cases d1
    obtain ⟨us, rd, dk⟩ := dct_rd (k1.cell hp).2
    refine ⟨p, rfl, .inl ⟨us, rd⟩, h1 fz M1 U1 σ H1 (en.stp x1 k1) _ fun y v M2 U2 w2 H2 ⟨lk3, kvs3, kk, e2, hp3, q⟩ x2 k2 d2 => ?_⟩
    subst e2
    obtain ⟨us3, rd3, dk3⟩ := dct_rd (k2.cell hp3).2
    refine ⟨valV us3 kk, .inl ⟨us3, kk, rd3, kD_kV d2, rfl⟩, ?_⟩
    cases e : valG kvs3 kk with
    | none => rw [dtk_no dk3 e]; rw [e] at q; exact k _ _ M2 U2 w2 H2 q (en.tr x1 x2) k2 .non
    | some d => obtain ⟨u', g1, g2⟩ := dtk_val dk3 e; rw [g1]; rw [e] at q; exact k _ _ M2 U2 w2 H2 q (en.tr x1 x2) k2 g2
/-- d.pop(k), there -/
theorem ev_dpop1 (h : EvD C td δ w fun o w1 => ∃ p kvs, o = .adr p ∧ w1 p = some (.p (.dct none kvs)) ∧ EvD C ty δ w1 fun y w2 => ∃ kvs k d, y = kD k ∧ w2 p = some (.p (.dct none kvs)) ∧ valG kvs k = some d ∧ Φ d (w2.set p (.p (.dct none (dropG kvs k))))) : EvD C (tDPop1 td ty) δ w Φ := fun fz M U σ H en Q k =>
  h fz M U σ H en _ fun o x M1 U1 w1 H1 ⟨p, kvs, e1, hp, h1⟩ x1 k1 d1 => by
    subst e1
    cases d1
    obtain ⟨us, rd, dk⟩ := dct_rd (k1.cell hp).2
    refine ⟨p, rfl, .inl ⟨us, rd⟩, h1 fz M1 U1 σ H1 (en.stp x1 k1) _ fun y v M2 U2 w2 H2 ⟨kvs2, kk, d, e2, hp2, hv, q⟩ x2 k2 d2 => ?_⟩
    subst e2
    obtain ⟨up, us2, g1, g2⟩ := k2.cell hp2
    obtain ⟨u, g3, g4⟩ := dtk_val g2 hv
    obtain ⟨k3, x3⟩ := put_dct k2 hp2 (dtk_drop (k := kk) g2)
    exact ⟨us2, kk, u, g1, kD_kV d2, g3, k d u M2 U2 _ _ q (en.tr (en.tr x1 x2) x3) k3 (stp_dt k2.um x3 g4)⟩
/-- d.pop(k, x) -/
theorem ev_dpop2 (h : EvD C td δ w fun o w1 => ∃ p kvs, o = .adr p ∧ w1 p = some (.p (.dct none kvs)) ∧ EvD C ty δ w1 fun y w2 => EvD C tx δ w2 fun z w3 => ∃ kvs k, y = kD k ∧ w3 p = some (.p (.dct none kvs)) ∧
      (∀ d, valG kvs k = some d → Φ d (w3.set p (.p (.dct none (dropG kvs k))))) ∧ (valG kvs k = none → Φ z w3)) : EvD C (tDPop2 td ty tx) δ w Φ := fun fz M U σ H en Q k =>
  h fz M U σ H en _ fun o x M1 U1 w1 H1 ⟨p, kvs, e1, hp, h1⟩ x1 k1 d1 => by
    subst e1
    cases d1
    obtain ⟨us, rd, dk⟩ := dct_rd (k1.cell hp).2
    refine ⟨p, rfl, .inl ⟨us, rd⟩, h1 fz M1 U1 σ H1 (en.stp x1 k1) _ fun y v M2 U2 w2 H2 h2 x2 k2 d2 => h2 fz M2 U2 σ H2 (en.stp (en.tr x1 x2) k2) _ fun z u M3 U3 w3 H3 ⟨kvs3, kk, e2, hp3, hs, hn⟩ x3 k3 d3 => ?_⟩
    subst e2
    obtain ⟨up, us3, g1, g2⟩ := k3.cell hp3
    refine ⟨us3, kk, g1, kD_kV d2, ?_⟩
    have xx := en.tr (en.tr x1 x2) x3
    cases e : valG kvs3 kk with
    | none =>
      have g3 := dtk_no g2 e
      exact ⟨fun v hv => absurd (hv.symm.trans g3) (fun z => by cases z), fun _ => k z u M3 U3 w3 H3 (hn e) xx k3 d3⟩
    | some d =>
      obtain ⟨u', g3, g4⟩ := dtk_val g2 e
      obtain ⟨k4, x4⟩ := put_dct k3 hp3 (dtk_drop (k := kk) g2)
      have fin := k d u' M3 U3 _ _ (hs d e) (en.tr xx x4) k4 (stp_dt k3.um x4 g4)
      exact ⟨fun v hv => by rw [g3] at hv; cases hv; exact fin, fun z => by rw [g3] at z; cases z⟩
/-! ### locked while it is walked -/
theorem lock_put {p : Addr} {kvs : List (Key × D)} {M U : Addr → Prop} {H : Hp} {K : PySem.W.Frag} (k : WOk K M U w H) (h : w p = some (.p (.dct none kvs))) : ∃ us, H p = some (.dK us) ∧ ∀ od, WOk K M U (w.set p (.p (.dct (some (od, us)) kvs))) (L2.upd H p (.frz od (.dK us))) ∧ Stp M U H M U (L2.upd H p (.frz od (.dK us))) := by
  obtain ⟨up, us, g1, g2⟩ := k.cell h
  exact ⟨us, g1, fun od => k.put (o' := .dct (some (od, us)) kvs) h ⟨upd_same, g2.to (fun _ z => z) (upd_ext (k.um p up))⟩⟩
theorem unlock_put {p : Addr} {kvs : List (Key × D)} {od : Obj} {us : List (Key × V)} {M U : Addr → Prop} {H : Hp} {K : PySem.W.Frag} (k : WOk K M U w H) (h : w p = some (.p (.dct (some (od, us)) kvs))) : H p = some (.frz od (.dK us)) ∧ WOk K M U (w.set p (.p (.dct none kvs))) (L2.upd H p (.dK us)) ∧ Stp M U H M U (L2.upd H p (.dK us)) := by
  obtain ⟨up, g1, g2⟩ := k.cell h
  exact ⟨g1, k.put (o' := .dct none kvs) h ⟨us, upd_same, g2.to (fun _ z => z) (upd_ext (k.um p up))⟩⟩
theorem b_lock {p : Addr} {kvs : List (Key × D)} (h : w p = some (.p (.dct none kvs)))
    (hb : ∀ L, Blk C t δ (w.set p (.p (.dct (some L) kvs))) { nx := fun δ' w' => w' p = some (.p (.dct (some L) kvs)) ∧ P.nx δ' (w'.set p (.p (.dct none kvs))), rt := fun d w' => w' p = some (.p (.dct (some L) kvs)) ∧ P.rt d (w'.set p (.p (.dct none kvs))), bk := fun _ _ => False, ct := fun _ _ => False }) : Blk C (tLock t) δ w P := fun fz M U σ H en D' l => by
  obtain ⟨us, g1, gl⟩ := lock_put en.wk h
  refine ⟨p, .dK us, g1, trivial, fun od => ?_⟩
  obtain ⟨k1, x1⟩ := gl od
  refine hb (od, us) fz M U σ _ (en.stp x1 k1) _ ⟨fun M2 U2 σ2 H2 δ2 w2 ⟨e, q⟩ e2 => ?_, fun M2 U2 v H2 d w2 ⟨e, q⟩ x2 k2 d2 => ?_, fun _ _ _ _ _ _ z => z.elim, fun _ _ _ _ _ _ z => z.elim⟩
  · obtain ⟨u1, k3, x3⟩ := unlock_put e2.wk e
    exact ⟨u1, l.nx M2 U2 σ2 _ δ2 _ q (e2.stp x3 k3)⟩
  · obtain ⟨u1, k3, x3⟩ := unlock_put k2 e
    exact ⟨u1, l.rt M2 U2 v _ d _ q (x2.trans en.ok.al x3) k3 (stp_dt k2.um x3 d2)⟩
theorem ev_lock {p : Addr} {kvs : List (Key × D)} (h : w p = some (.p (.dct none kvs)))
    (hb : ∀ L, EvD C te δ (w.set p (.p (.dct (some L) kvs))) fun d w' => w' p = some (.p (.dct (some L) kvs)) ∧ Φ d (w'.set p (.p (.dct none kvs)))) : EvD C (tLockE te) δ w Φ := fun fz M U σ H en Q k => by
  obtain ⟨us, g1, gl⟩ := lock_put en.wk h
  refine ⟨p, .dK us, g1, trivial, fun od => ?_⟩
  obtain ⟨k1, x1⟩ := gl od
  refine hb (od, us) fz M U σ _ (en.stp x1 k1) _ fun d v M2 U2 w2 H2 ⟨e, q⟩ x2 k2 d2 => ?_
  obtain ⟨u1, k3, x3⟩ := unlock_put k2 e
  exact ⟨u1, k d v M2 U2 _ _ q (en.tr (en.tr x1 x2) x3) k3 (stp_dt k2.um x3 d2)⟩
theorem ei_K {Ψ : Nat → (World → Prop) → (Nat → D → Prop) → World → Prop} (h : EvD C td δ w fun d w1 => ∃ p L kvs, d = .adr p ∧ w1 p = some (.p (.dct (some L) kvs)) ∧ Ψ kvs.length (fun w' => w' p = some (.p (.dct (some L) kvs))) (fun i x => ∃ k v, kvs[i]? = some (k, v) ∧ x = kD k) w1) : EvI C (iKeys td) δ w Ψ := fun fz M U σ H en R k =>
  h fz M U σ H en _ fun d v M1 U1 w1 H1 ⟨p, L, kvs, e, hp, q⟩ x1 k1 d1 => by
    subst e
    cases d1
    obtain ⟨up, g1, g2⟩ := k1.cell hp
    refine ⟨p, L.1, rfl, .inl ⟨L.2, g1, k _ [] M1 U1 w1 H1 _ _ _ q (en.stp x1 k1) x1 fun i M U δ w σ H e hG => ?_⟩⟩
    obtain ⟨up, g3, g4⟩ := e.wk.cell hG
    have el := dtk_len g4
    refine ⟨fun hi => ⟨g3, by omega⟩, fun hi => ⟨⟨g3, by omega⟩, fun x H' ⟨eH, kk, v, hx, ex⟩ => ?_⟩⟩
    subst eH ex
    obtain ⟨d, q1, q2⟩ := dtk_at g4 hx
    exact ⟨_, ⟨kk, d, q1, rfl⟩, same_refl _, dt_kV kk⟩
theorem ei_V {Ψ : Nat → (World → Prop) → (Nat → D → Prop) → World → Prop} (h : EvD C td δ w fun d w1 => ∃ p L kvs, d = .adr p ∧ w1 p = some (.p (.dct (some L) kvs)) ∧ Ψ kvs.length (fun w' => w' p = some (.p (.dct (some L) kvs))) (fun i x => ∃ k, kvs[i]? = some (k, x)) w1) : EvI C (iVals td) δ w Ψ := fun fz M U σ H en R k =>
  h fz M U σ H en _ fun d v M1 U1 w1 H1 ⟨p, L, kvs, e, hp, q⟩ x1 k1 d1 => by
    subst e
    cases d1
    obtain ⟨up, g1, g2⟩ := k1.cell hp
    refine ⟨p, L.1, L.2, rfl, g1, k _ [] M1 U1 w1 H1 _ _ _ q (en.stp x1 k1) x1 fun i M U δ w σ H e hG => ?_⟩
    obtain ⟨up, g3, g4⟩ := e.wk.cell hG
    have el := dtk_len g4
    refine ⟨fun hi => ⟨g3, by omega⟩, fun hi => ⟨⟨g3, by omega⟩, fun x H' ⟨eH, kk, hx⟩ => ?_⟩⟩
    subst eH
    obtain ⟨d, q1, q2⟩ := dtk_at g4 hx
    exact ⟨d, ⟨kk, q1⟩, same_refl _, q2⟩
end
/-! ### a law's start -/
def emptyW : World := fun _ => none
theorem bag_start {K : PySem.W.Frag} {N : List Str} {i : Nat} {rest : TS} {vs : List V} {H : Hp} {Q : VK} {E : XK} (hi : i < N.length)
    (h : ∀ (C : Ctx) (b : Addr) (w : World), C.K = K → C.E = E → C.X = noX → w b = some (bagO b) → Blk C rest ((List.replicate N.length Sl.no).set i (.d (.adr b))) w { nx := fun _ _ => False, rt := fun d _ => d = .bl true })
    (hs : spLaw K vs H Q E) : tSeq (tAsg (tCl 1 0 (spBag K) gvAll E (tCons (tVar 0) tNil) tNil) (gName i)) rest { nx := fun _ H' => Q .non H', rt := Q } (L2.start N vs) H := by
  obtain ⟨a, ns, rfl, hn, hq, q⟩ := hs
  obtain ⟨x, N', rfl⟩ : ∃ x N', N = x :: N' := by
    cases N with
    | nil => cases hi
    | cons x N' => exact ⟨x, N', rfl⟩
  have e0 : L2.start (x :: N') [.ref a] = some (.ref a) :: List.replicate N'.length none := by simp [L2.start]
  rw [e0]
  refine ⟨.ref a, rfl, rfl, rfl, a, ns, rfl, hn, hq, fun B H' hb => ?_⟩
  obtain ⟨a1, s1, i1, h1, p1, p2, p3, p4, h2⟩ := hb
  have ne := B.ne
  have al : ∀ z, (z = B.b ∨ z = B.c) → H' z ≠ none := fun z e => by
    rcases e with e | e
    · rw [e, h1]; exact fun z => by cases z
    · rw [e, h2]; exact fun z => by cases z
  have dints : ∀ ns : List Int, DtL K (fun z => z = B.b ∨ z = B.c) H' (ns.map V.int) (ns.map D.int) := fun ns => by
    induction ns with
    | nil => exact .nil
    | cons n r ih => exact .cons (.int n) ih
  have wk : WOk K (fun z => z = B.b ∨ z = B.c) (fun z => z = B.b ∨ z = B.c) (emptyW.set B.b (bagO B.b)) H' := by
    refine ⟨al, fun _ z => z, fun z => if z = B.b then some (.lst [.int a1, .int s1, .int i1, .adr B.c]) else if z = B.c then some (.lst (B.cells.map D.int)) else none, fun z => if z = B.b ∨ z = B.c then some B.b else none, fun z o e => ?_, fun z e => ?_, fun z o e => ?_, fun z P e => ?_⟩
    · by_cases q1 : z = B.b
      · simp only [q1, if_true] at e
        cases e
        rw [q1]
        exact ⟨.inl rfl, _, h1, .cons (.int _) (.cons (.int _) (.cons (.int _) (.cons (.adr _) .nil)))⟩
      · by_cases q2 : z = B.c
        · simp only [q1, q2, if_false, if_true, Ne.symm ne] at e
          cases e
          rw [q2]
          exact ⟨.inr rfl, _, h2, dints _⟩
        · simp only [q1, q2, if_false] at e
          cases e
    · by_cases q1 : z = B.b
      · rw [q1]; exact ⟨.inl rfl, by simp⟩
      · rw [set_ne q1] at e; exact absurd rfl e
    · by_cases q1 : z = B.b
      · rw [q1, set_same] at e; cases e
      · rw [set_ne q1] at e; cases e
    · by_cases q1 : z = B.b
      · rw [q1, set_same] at e
        cases e
        rw [q1]
        refine ⟨B.c, B.cells, a1, s1, i1, ?_, ?_, ne, B.pos, p1, p2, p3, p4⟩
        · unfold part; simp
        · unfold part; simp [Ne.symm ne]
      · rw [set_ne q1] at e; cases e
  refine h ⟨K, fun z => z = B.b ∨ z = B.c, fun z => z = B.b ∨ z = B.c, H', noX, E⟩ B.b _ rfl rfl rfl set_same [] _ _ _ H' ⟨⟨al, fun _ z => z, Takes.no⟩, by simp, fun j s hj => ?_, fun p h => (by cases h), .refl, wk⟩ _ ⟨fun _ _ _ _ _ _ z => z.elim, fun M' U' v H2 d' w' p x k' d3 => ?_, fun _ _ _ _ _ _ z => z.elim, fun _ _ _ _ _ _ z => z.elim⟩
  · rcases set_cases hj with ⟨rfl, rfl⟩ | ⟨n, hj⟩
    · exact ⟨some (.ref B.b), List.getElem?_set_self (by simpa using hi), .ref B.b, rfl, .adr _⟩
    · have hm := List.mem_of_getElem? hj
      rw [(List.mem_replicate.mp hm).2]
      have hl := lt_of_some hj
      refine ⟨_, by rw [List.getElem?_set_ne (Ne.symm n)]; exact List.getElem?_eq_getElem (by simpa using hl), trivial⟩
  · subst p
    cases d3
    exact q H2
theorem recv_wane {K : PySem.W.Frag} {p : Plan} {nm : Str} {w : World} {R : Prop} (h : nm ∉ (["head_steps", "tail_steps", "cap_at", "lift_by", "begins"] : List Str)) (r : R) : Recv (He.ga K "Wane") nm (waneD K p) w ∧ R := ⟨.inl ⟨_, rfl, wane_noKey h⟩, r⟩
/-! fields by name -/
theorem lk_hd {f : Str} {d : D} {t : List (Str × D)} : List.lookup f ((f, d) :: t) = some d := by rw [List.lookup_cons, beq_self_eq_true]
theorem lk_tl {f g : Str} {x d : D} {t : List (Str × D)} (h : (f == g) = false) (r : List.lookup f t = some d) : List.lookup f ((g, x) :: t) = some d := by rw [List.lookup_cons, h]; exact r
theorem pd_nil {f : Str} {v : D} : putD f v [] = [(f, v)] := rfl
theorem pd_hd {f : Str} {v x : D} {t : List (Str × D)} : putD f v ((f, x) :: t) = (f, v) :: t := by unfold putD; rw [if_pos rfl]
theorem pd_tl {f g : Str} {v x : D} {t t' : List (Str × D)} (h : (g == f) = false) (r : putD f v t = t') : putD f v ((g, x) :: t) = (g, x) :: t' := by
  conv => lhs; unfold putD
  rw [if_neg (beq_eq_false_iff_ne.mp h), r]
def FldGet (c : Addr) (f : Str) (o : D) (w : World) (k : D → World → Prop) : Prop := (∃ fs d, o = .obj c fs ∧ fs.lookup f = some d ∧ k d w) ∨ ∃ a fs d, o = .adr a ∧ w a = some (.p (.ins c fs)) ∧ fs.lookup f = some d ∧ k d w
theorem fget_T {c : Addr} {f : Str} {fs : List (Str × D)} {d : D} {w : World} {k : D → World → Prop} (h : fs.lookup f = some d) (q : k d w) : FldGet c f (.obj c fs) w k := .inl ⟨fs, d, rfl, h, q⟩
theorem fget_C {c a : Addr} {f : Str} {fs : List (Str × D)} {d : D} {w : World} {k : D → World → Prop} (ha : w a = some (.p (.ins c fs))) (h : fs.lookup f = some d) (q : k d w) : FldGet c f (.adr a) w k := .inr ⟨a, fs, d, rfl, ha, h, q⟩
def FldPut (c : Addr) (f : Str) (d o : D) (w : World) (k : World → Prop) : Prop := ∃ p fs fs', o = .adr p ∧ w p = some (.p (.ins c fs)) ∧ putD f d fs = fs' ∧ fs.length < 1000 ∧ k (w.set p (.p (.ins c fs')))
theorem fput {c p : Addr} {f : Str} {d : D} {fs fs' : List (Str × D)} {w : World} {k : World → Prop} (ha : w p = some (.p (.ins c fs))) (h : putD f d fs = fs') (hl : Nat.blt fs.length 1000 = true) (q : k (w.set p (.p (.ins c fs')))) : FldPut c f d (.adr p) w k := ⟨p, fs, fs', rfl, ha, h, Nat.lt_of_lt_of_le (Nat.le_of_ble_eq_true hl) (Nat.le_refl _), q⟩
theorem fput2 {c p : Addr} {f : Str} {d : D} {fs fs' : List (Str × D)} {w : World} {k : World → Prop} (h : putD f d fs = fs') (hl : Nat.blt fs.length 1000 = true) (q : k (w.set p (.p (.ins c fs')))) : FldPut c f d (.adr p) (w.set p (.p (.ins c fs))) k := fput set_same h hl (by rw [set_set]; exact q)
/-- a class's fields are attributes of instances alone -/
def ClsK (K : PySem.W.Frag) (n : Str) (fs : List Str) : Prop := Cls K (He.ga K n) ∧ ∀ f ∈ fs, NoAttr K (He.ga K n) f
section
variable {C : Ctx} {δ : List Sl} {w : World} {P : DE} {ta te : TE} {Φ : D → World → Prop} {K : PySem.W.Frag}
theorem ev_fldU {n f : Str} {fs : List Str} (hK : ClsK C.K n fs) (hf : f ∈ fs) (h : EvD C ta δ w fun o w1 => FldGet (He.ga C.K n) f o w1 Φ) : EvD C (tFld C.K ta f) δ w Φ := fun fz M U σ H en Q k =>
  h fz M U σ H en _ fun o x M1 U1 w1 H1 g x1 k1 d1 => by
    rcases g with ⟨fs', d, rfl, hl, p⟩ | ⟨a, fs', d, rfl, ha, hl, p⟩
    · cases d1 with
      | @obj a _ dx fv _ hm ha hf' =>
        obtain ⟨v, h1, h2⟩ := dtf_look hf' hl
        exact ⟨a, _, dx, fv, v, rfl, ha, hK.1, hK.2 f hf, h1, k d v M1 U1 w1 H1 p x1 k1 h2⟩
    · cases d1
      obtain ⟨_, dx, fv, h1, h2⟩ := k1.cell ha
      obtain ⟨v, h3, h4⟩ := dtf_look h2 hl
      exact ⟨a, _, dx, fv, v, rfl, h1, hK.1, hK.2 f hf, h3, k d v M1 U1 w1 H1 p x1 k1 h4⟩
theorem b_fldU {n f : Str} {fs : List Str} (hK : ClsK C.K n fs) (hf : f ∈ fs) (h : EvD C te δ w fun d w1 => EvD C ta δ w1 fun o w2 => FldPut (He.ga C.K n) f d o w2 (P.nx δ)) : Blk C (sFld C.K ta te f) δ w P :=
  b_fld rfl hK.1 (hK.2 f hf) (h.mono fun d w1 h => h.mono fun o w2 ⟨p, fs, fs', e, a, b, c, q⟩ => ⟨p, fs, e, a, c, by rw [b]; exact q⟩)
/-- a list within an instance under way is done -/
theorem WOk.frzF {M U : Addr → Prop} {H : Hp} {x q c : Addr} {f : Str} {xs : List D} {fs1 fs2 : List (Str × D)} (k : WOk K M U w H) (hx : w x = some (.p (.ins c (fs1 ++ (f, .adr q) :: fs2)))) (hq : w q = some (.p (.lst xs))) :
    WOk K (fun a => M a ∧ a ≠ q) (fun a => U a ∧ a ≠ q) ((w.del q).set x (.p (.ins c (fs1 ++ (f, .lst xs) :: fs2)))) H ∧ Stp M U H (fun a => M a ∧ a ≠ q) (fun a => U a ∧ a ≠ q) H := by
  have nxq : x ≠ q := fun e => by rw [e, hq] at hx; cases hx
  obtain ⟨k2, x2⟩ := k.frz hq
  obtain ⟨_, vs, g1, g2⟩ := k.cell hq
  have hx2 : (w.del q) x = some (.p (.ins c (fs1 ++ (f, .adr q) :: fs2))) := by rw [del_ne nxq]; exact hx
  obtain ⟨_, dx, fv, h1, h2⟩ := k2.cell hx2
  have dl : Dt K (fun a => M a ∧ a ≠ q) H (.ref q) (.lst xs) := .lst (fun z => z.2 rfl) g1 (g2.to (fun _ z => z.1) (Ext.refl _ _))
  have go : ∀ (fs1 : List (Str × D)) (fv : List (Str × V)), DtF K (fun a => M a ∧ a ≠ q) H fv (fs1 ++ (f, .adr q) :: fs2) → DtF K (fun a => M a ∧ a ≠ q) H fv (fs1 ++ (f, .lst xs) :: fs2) := fun fs1 => by
    induction fs1 with
    | nil =>
      intro fv h
      cases h with
      | cons a t => cases a; exact .cons dl t
    | cons y r ih =>
      intro fv h
      cases h with
      | cons a t => exact .cons a (ih _ t)
  have e : L2.upd H x (.ins c dx fv) = H := upd_id h1
  have p := k2.put (o' := .ins c (fs1 ++ (f, .lst xs) :: fs2)) (ho := .ins c dx fv) hx2 (by rw [e]; exact ⟨dx, fv, h1, go fs1 fv h2⟩)
  rw [e] at p
  exact ⟨p.1, x2⟩
theorem b_frzF {t : TS} {x q c : Addr} {f : Str} {xs : List D} (fs1 fs2 : List (Str × D)) (hx : w x = some (.p (.ins c (fs1 ++ (f, .adr q) :: fs2)))) (hq : w q = some (.p (.lst xs)))
    (h : Blk C t δ ((w.del q).set x (.p (.ins c (fs1 ++ (f, .lst xs) :: fs2)))) P) : Blk C t δ w P := fun fz M U σ H en D' l => by
  obtain ⟨k2, x2⟩ := en.wk.frzF hx hq
  exact h fz _ _ σ H (en.stp x2 k2) D' l
/-- the signs of a row -/
theorem ei_row {tl : TE} {Ψ : Nat → (World → Prop) → (Nat → D → Prop) → World → Prop} (h : EvD C tl δ w fun d w1 => ∃ l : List Bool, d = rowD l ∧ Ψ l.length (fun _ => True) (fun i x => ∃ b, l[i]? = some b ∧ x = sgD b) w1) : EvI C (iU K tl) δ w Ψ := fun fz M U σ H en R k =>
  .inr (.inr (h fz M U σ H en _ fun d v M1 U1 w1 H1 ⟨l, e, q⟩ x1 k1 d1 => by
    subst e
    cases d1
    have hz : (rowS l).cps.size = l.length := by have := row_len l; simpa [Str.length] using this
    refine ⟨rowS l, rfl, k _ [] M1 U1 w1 H1 _ _ _ q (en.stp x1 k1) x1 fun i M U δ w σ H e _ => ?_⟩
    refine ⟨fun hi => by show (rowS l).cps.size ≤ i; omega, fun hi => ⟨by show i < (rowS l).cps.size; omega, fun x H' ⟨eH, c, hc, hx⟩ => ?_⟩⟩
    subst eH hx
    have hc' : (rowS l).cps.toList[i]? = some c := by simpa using hc
    rw [row_cps, List.getElem?_map] at hc'
    cases hb : l[i]? with
    | none => rw [hb] at hc'; cases hc'
    | some b =>
      rw [hb] at hc'
      cases hc'
      exact ⟨_, ⟨b, rfl, rfl⟩, same_refl _, .str _⟩))
end
/-- xs.append(e) -/
def LsAt (o : D) (w : World) (k : Addr → Prop) : Prop := ∃ p xs, o = .adr p ∧ w p = some (.p (.lst xs)) ∧ k p
theorem lsAt {p : Addr} {xs : List D} {w : World} {k : Addr → Prop} (h : w p = some (.p (.lst xs))) (q : k p) : LsAt (.adr p) w k := ⟨p, xs, rfl, h, q⟩
def LsPut (p : Addr) (f : List D → List D) (w : World) (k : World → Prop) : Prop := ∃ xs, w p = some (.p (.lst xs)) ∧ xs.length < 100000 ∧ k (w.set p (.p (.lst (f xs))))
theorem lsPut {p : Addr} {f : List D → List D} {xs : List D} {w : World} {k : World → Prop} (h : w p = some (.p (.lst xs))) (hl : xs.length < 100000) (q : k (w.set p (.p (.lst (f xs))))) : LsPut p f w k := ⟨xs, h, hl, q⟩
theorem lsPut2 {p : Addr} {f : List D → List D} {xs : List D} {w : World} {k : World → Prop} (hl : xs.length < 100000) (q : k (w.set p (.p (.lst (f xs))))) : LsPut p f (w.set p (.p (.lst xs))) k := lsPut set_same hl (by rw [set_set]; exact q)
theorem ev_app {C : Ctx} {δ : List Sl} {w : World} {ta te : TE} {Φ : D → World → Prop} {K : PySem.W.Frag} (hK : K = C.K) (h : EvD C ta δ w fun o w1 => LsAt o w1 fun p => EvD C te δ w1 fun y w2 => LsPut p (fun xs => xs ++ [y]) w2 (Φ .non)) : EvD C (tBM K "list" rAppend ta (tCons te tNil)) δ w Φ :=
  ev_bm (h.mono fun o w1 ⟨p, xs, e, hp, h2⟩ => by
    subst e hK
    exact ⟨ty_list hp, ea_cons (h2.mono fun y w2 ⟨ys, hp2, hl, q⟩ => ea_nil (rm_append hp2 hl q))⟩)
theorem spB {b : Bool} {A B : Prop} (h1 : b = true → A) (h2 : b = false → B) : (b = true → A) ∧ (b = false → B) := ⟨h1, h2⟩
theorem spB' {b : Bool} {A B : Prop} (h1 : b = false → A) (h2 : b = true → B) : (b = false → A) ∧ (b = true → B) := ⟨h1, h2⟩
theorem spN {b : Bool} {A B : Prop} (h1 : b = false → A) (h2 : b = true → B) : ((!b) = true → A) ∧ ((!b) = false → B) := ⟨fun z => h1 (by simpa using z), fun z => h2 (by simpa using z)⟩
theorem spN' {b : Bool} {A B : Prop} (h1 : b = true → A) (h2 : b = false → B) : ((!b) = false → A) ∧ ((!b) = true → B) := ⟨fun z => h1 (by simpa using z), fun z => h2 (by simpa using z)⟩
theorem get_ne {w : World} {a b : Addr} {o u : MO} (h : a ≠ b) (r : w a = some o) : (w.set b u) a = some o := by rw [set_ne h]; exact r
theorem ne_free {w : World} {a p : Addr} {o : MO} (h : w a = some o) (hp : w p = none) : a ≠ p := fun e => by rw [e, hp] at h; cases h
end Y
end Wn
end

section
/-! Views: cells read as trees, by what only reads. -/
namespace Wn
section
open PySem PySem.Spec PyProof.Rows L2
def F_Wane_headN (K : PySem.W.Frag) : FNew := fun ds Φ _ => ∃ (p : Plan), ds = [waneD K p] ∧ p.Ok ∧ Φ (p.hs.map stepD)
def F_Wane_tailN (K : PySem.W.Frag) : FNew := fun ds Φ _ => ∃ (p : Plan), ds = [waneD K p] ∧ p.Ok ∧ Φ (p.ts.map stepD)
theorem pure_Wane_headN {K : PySem.W.Frag} (W : WaneK K) {vs : List V} {H : Hp} {Q : VK} {E : XK} (h : liftN K pureM (F_Wane_headN K) vs H Q E) : t_Wane_head K E { nx := fun _ H' => Q .non H', rt := Q } (L2.start ["self"] vs) H :=
  liftN_of (t := t_Wane_head K) (fun C ds Φ hK hm hE hn ⟨p, e, ok, q⟩ => by
    subst hK hE e
    exact b_retE (en_list rfl (ea_cons (ev_hs W (ev_var rfl ⟨p, rfl, ea_nil ⟨_, .inl rfl, q⟩⟩))))) h
theorem pure_Wane_tailN {K : PySem.W.Frag} (W : WaneK K) {vs : List V} {H : Hp} {Q : VK} {E : XK} (h : liftN K pureM (F_Wane_tailN K) vs H Q E) : t_Wane_tail K E { nx := fun _ H' => Q .non H', rt := Q } (L2.start ["self"] vs) H :=
  liftN_of (t := t_Wane_tail K) (fun C ds Φ hK hm hE hn ⟨p, e, ok, q⟩ => by
    subst hK hE e
    exact b_retE (en_list rfl (ea_cons (ev_ts W (ev_var rfl ⟨p, rfl, ea_nil ⟨_, .inl rfl, q⟩⟩))))) h
end
namespace Y
open PySem PySem.Spec PyProof.Rows L2
mutual
inductive Vw (w : World) : D → D → Prop
  | rfl (d : D) : Vw w d d
  | cell {p : Addr} {xs ys : List D} : w p = some (.p (.lst xs)) → VwL w xs ys → Vw w (.adr p) (.lst ys)
  | lst {xs ys : List D} : VwL w xs ys → Vw w (.lst xs) (.lst ys)
  | tup {xs ys : List D} : VwL w xs ys → Vw w (.tup xs) (.tup ys)
inductive VwL (w : World) : List D → List D → Prop
  | nil : VwL w [] []
  | cons {x y : D} {xs ys : List D} : Vw w x y → VwL w xs ys → VwL w (x :: xs) (y :: ys)
end
theorem VwL.refl {w : World} : ∀ xs : List D, VwL w xs xs
  | [] => .nil
  | x :: xs => .cons (.rfl x) (VwL.refl xs)
def noM : Addr → Prop := fun _ => False
section
variable {K : PySem.W.Frag} {M U : Addr → Prop} {w : World} {H : Hp}
theorem Dt.noM {v : V} {d : D} (h : Dt K M H v d) : Dt K noM H v d := h.weak fun _ z => z.elim
theorem DtL.noM {v : List V} {d : List D} (h : DtL K M H v d) : DtL K noM H v d := h.to (fun _ z => z.elim) (Ext.refl _ _)
mutual
theorem Vw.dt (k : WOk K M U w H) : ∀ {d d' : D} {v : V}, Vw w d d' → Dt K Y.noM H v d → Dt K Y.noM H v d'
  | _, _, _, .rfl _, h => h
  | _, _, _, .cell e l, h => by
    cases h
    obtain ⟨_, vs, h1, h2⟩ := k.cell e
    exact .lst (fun z => z) h1 (VwL.dt k l (DtL.noM h2))
  | _, _, _, .lst l, h => by
    cases h with
    | lst n g t => exact .lst n g (VwL.dt k l t)
  | _, _, _, .tup l, h => by
    cases h with
    | tup n g t => exact .tup n g (VwL.dt k l t)
    | ktup g t => exact .ktup g (VwL.dt k l t)
theorem VwL.dt (k : WOk K M U w H) : ∀ {d d' : List D} {v : List V}, VwL w d d' → DtL K Y.noM H v d → DtL K Y.noM H v d'
  | _, _, _, .nil, h => h
  | _, _, _, .cons a b, h => by
    cases h with
    | cons x y => exact .cons (Vw.dt k a x) (VwL.dt k b y)
end
theorem flat_any {v : V} {d : D} {N : Addr → Prop} (h : Dt K N H v d) (f : d.flat = true) : Dt K M H v d := by
  cases h with
  | non => exact .non
  | bl b => exact .bl b
  | int i => exact .int i
  | str x => exact .str x
  | _ => cases f
variable {Φ : D → World → Prop} {a b a' b' : D}
/-- two things read as trees -/
theorem ryV {r : R2} (ha : Vw w a a') (hb : Vw w b b') (h : RD K r a' b' fun d => d.flat = true ∧ Φ d w) : RY K r a b w Φ := fun M U x y H k d1 d2 Q q =>
  h Y.noM x y H (fun _ z => z.elim) (ha.dt k (Dt.noM d1)) (hb.dt k (Dt.noM d2)) Q fun d v H' p s d3 => q d v M U w H' p.2 (.of_same s) (k.same s) (flat_any d3 p.1)
theorem rcyV {r : List V → Hp → VK → Prop} {as bs : List D} (ha : VwL w as bs) (h : RC K r bs fun d => d.flat = true ∧ Φ d w) : RCY K r as w Φ := fun M U x H k d1 Q q =>
  h Y.noM x H (fun _ z => z.elim) (ha.dt k (DtL.noM d1)) Q fun d v H' p s d3 => q d v M U w H' p.2 (.of_same s) (k.same s) (flat_any d3 p.1)
end
section
variable {C : Ctx} {δ : List Sl} {w : World} {Φ : D → World → Prop} {ta : TE}
/-- a call that only reads, of cells read as trees -/
theorem ev_clPV {n j : Nat} {F : Wn.FSpec} {gV : List V → List V → List V} {gD : List D → List D → List D} {t tk : TA} (hg : ∀ M H vs zs ds es, ds.length = n → es.length = j → DtL C.K M H vs ds → DtL C.K M H zs es → DtL C.K M H (gV vs zs) (gD ds es))
    (h : EvA C t δ w fun ds w1 => EvA C tk δ w1 fun es w2 => ds.length = n ∧ es.length = j ∧ ∃ us, VwL w2 (gD ds es) us ∧ F us (fun d => d.flat = true ∧ Φ d w2) Wn.noX) : EvD C (tCl n j (Wn.lift C.K pureM F) gV C.E t tk) δ w Φ := fun fz M U σ H en Q k =>
  h fz M U σ H en _ fun ds vs M1 U1 w1 H1 h1 x1 k1 d1 => h1 fz M1 U1 σ H1 (en.stp x1 k1) _ fun es zs M2 U2 w2 H2 ⟨l1, l2, us, hv, h2⟩ x2 k2 d2 =>
    ⟨(d1.length).trans l1, (d2.length).trans l2, Y.noM, us, Wn.noX, fun d => d.flat = true ∧ Φ d w2, fun _ z => z.elim, fun _ z => z.elim, hv.dt k2 (DtL.noM (hg _ _ _ _ _ _ l1 l2 (stp_dtl k1.um x2 d1) d2)), trivial, TakesX.no, h2, fun d v H' p e _ d3 =>
      have s : Same H2 H' := fun a o => e a o id
      k d v M2 U2 w2 H' p.2 (en.tr (en.tr x1 x2) (.of_same s)) (k2.same s) (flat_any d3 p.1)⟩
end
end Y
open PySem PySem.Spec PyProof.Rows L2
section
/-! longer chains of comparisons -/
def tLn (r : R2) (tb : TE) (tl : V → TE) : V → TE := fun x σ H Q => tb σ H fun y H2 => r x y H2 fun z H3 => ∃ k, z = .bl k ∧ (if k = true then tl y σ H3 Q else Q (.bl false) H3)
def tL1 (r : R2) (tc : TE) : V → TE := fun x σ H Q => tc σ H fun y H2 => r x y H2 Q
def tChN (ta : TE) (tl : V → TE) : TE := fun σ H Q => ta σ H fun x H1 => tl x σ H1 Q
abbrev tChain3 (r1 r2 r3 : R2) (a b c d : TE) : TE := tChN a (tLn r1 b (tLn r2 c (tL1 r3 d)))
abbrev tChain4 (r1 r2 r3 r4 : R2) (a b c d e : TE) : TE := tChN a (tLn r1 b (tLn r2 c (tLn r3 d (tL1 r4 e))))
structure PL (X : Cx) (ops : List CmpOp) (rs : List (Sem Value)) (tl : V → TE) : Prop where
  run : ∀ (p : Pos) (pins : List (Addr × Obj)) (s : Shared) (σ : L2.St) (H : Hp) (x : V) (v : Value) (Q : VK), Inv X pins σ H s → RelV x v → tl x σ H Q → wpAny (model X.prog X.w) X.A (compareChain p v ops rs) (EP X pins σ Q) X.xe s
structure PLt (X : Cx) (ops : List CmpOp) (rs : List (Sem Value)) (tl : V → TE) : Prop where
  run : ∀ (p : Pos) (pins : List (Addr × Obj)) (s : Shared) (σ : L2.St) (H : Hp) (x : V) (v : Value) (Q : Bool → Hp → Prop), Inv X pins σ H s → RelV x v → tl x σ H (fun z H' => ∃ k, z = .bl k ∧ Q k H') → wpAny (model X.prog X.w) X.A (testChain p v ops rs) (TP X pins σ Q) X.xe s
variable {X : Cx} {op op' : CmpOp} {ops : List CmpOp} {r : R2} {b a : Expr} {r' : Sem Value} {rs : List (Sem Value)} {tb ta : TE} {tl : V → TE} {pos : Pos}
theorem pl_one (ho : OpR X (compareOp op) r) (hb : PE X b tb) : PL X [op] [eval b X.env] (tL1 r tb) := ⟨fun p pins s σ H x v Q I rx h =>
  chain_last (thn (hb.run pins s σ H _ I h) fun u s2 ⟨y, H2, I2, r2, q2⟩ => ho pins s2 σ H2 x y v u Q I2 rx r2 q2)⟩
theorem pl_cons (ho : OpR X (compareOp op) r) (hb : PE X b tb) (ht : PL X (op' :: ops) (r' :: rs) tl) : PL X (op :: op' :: ops) (eval b X.env :: r' :: rs) (tLn r tb tl) := ⟨fun p pins s σ H x v Q I rx h => by
  refine chain_link (thn (hb.run pins s σ H _ I h) fun u s2 ⟨y, H2, I2, r2, q2⟩ => thn (ho pins s2 σ H2 x y v u _ I2 rx r2 q2) fun d s3 ⟨z, H3, I3, r3, k, e, q3⟩ => ?_)
  subst e
  cases r3
  refine wpAny_truthy_bool ?_
  cases k with
  | false => exact ite_ff ⟨.bl false, H3, I3, rfl, q3⟩
  | true => exact ite_tt (ht.run p pins s3 σ H3 y u Q I3 r2 q3)⟩
theorem plt_one (ho : OpR X (compareOp op) r) (hb : PE X b tb) : PLt X [op] [eval b X.env] (tL1 r tb) := ⟨fun p pins s σ H x v Q I rx h =>
  test_last (thn (hb.run pins s σ H _ I h) fun u s2 ⟨y, H2, I2, r2, q2⟩ => thn (ho pins s2 σ H2 x y v u _ I2 rx r2 q2) fun d' s5 ⟨z2, H5, I5, r5, k2, e2, q5⟩ => by
    subst e2
    cases r5
    exact wpAny_truthy_bool ⟨H5, I5, q5⟩)⟩
theorem plt_cons (ho : OpR X (compareOp op) r) (hb : PE X b tb) (ht : PLt X (op' :: ops) (r' :: rs) tl) : PLt X (op :: op' :: ops) (eval b X.env :: r' :: rs) (tLn r tb tl) := ⟨fun p pins s σ H x v Q I rx h => by
  refine test_link (thn (hb.run pins s σ H _ I h) fun u s2 ⟨y, H2, I2, r2, q2⟩ => thn (ho pins s2 σ H2 x y v u _ I2 rx r2 q2) fun d s3 ⟨z, H3, I3, r3, k, e, q3⟩ => ?_)
  subst e
  cases r3
  refine wpAny_truthy_bool ?_
  cases k with
  | false =>
    obtain ⟨k', e', q'⟩ := q3
    cases e'
    exact ite_ff ⟨H3, I3, q'⟩
  | true => exact ite_tt (ht.run p pins s3 σ H3 y u Q I3 r2 q3)⟩
theorem pe_chN {op1 op2 : CmpOp} {os : List CmpOp} {b1 b2 : Expr} {bs : List Expr} (ha : PE X a ta) (ht : PL X (op1 :: op2 :: os) (eval b1 X.env :: eval b2 X.env :: evalEach bs X.env) tl)
    (hm : lastMarks (op1 :: op2 :: os) (b1 :: b2 :: bs) = false := by with_unfolding_all rfl) : PE X (.Compare a (op1 :: op2 :: os) (b1 :: b2 :: bs) pos) (tChN ta tl) :=
  ⟨fun pins s σ H Q I h => Compare_chain (thn (ha.run pins s σ H _ I h) fun v s1 ⟨x, H1, I1, r1, q1⟩ => ht.run pos pins s1 σ H1 x v Q I1 r1 q1) hm⟩
theorem pt_chN {op1 op2 : CmpOp} {os : List CmpOp} {b1 b2 : Expr} {bs : List Expr} (ha : PE X a ta) (ht : PLt X (op1 :: op2 :: os) (eval b1 X.env :: eval b2 X.env :: evalEach bs X.env) tl)
    (hm : lastMarks (op1 :: op2 :: os) (b1 :: b2 :: bs) = false := by with_unfolding_all rfl) : PT X (.Compare a (op1 :: op2 :: os) (b1 :: b2 :: bs) pos) (tTest (tChN ta tl)) :=
  ⟨fun pins s σ H Q I h => isTrue_chain (thn (ha.run pins s σ H _ I h) fun v s1 ⟨x, H1, I1, r1, q1⟩ => ht.run pos pins s1 σ H1 x v Q I1 r1 q1) hm⟩
variable {o1 o2 o3 o4 : CmpOp} {r1 r2 r3 r4 : R2} {c d e : Expr} {tc td te : TE}
theorem pe_chain3 (h1 : OpR X (compareOp o1) r1) (h2 : OpR X (compareOp o2) r2) (h3 : OpR X (compareOp o3) r3) (ha : PE X a ta) (hb : PE X b tb) (hc : PE X c tc) (hd : PE X d td)
    (hm : lastMarks [o1, o2, o3] [b, c, d] = false := by with_unfolding_all rfl) : PE X (.Compare a [o1, o2, o3] [b, c, d] pos) (tChain3 r1 r2 r3 ta tb tc td) := pe_chN ha (pl_cons h1 hb (pl_cons h2 hc (pl_one h3 hd))) hm
theorem pt_chain3 (h1 : OpR X (compareOp o1) r1) (h2 : OpR X (compareOp o2) r2) (h3 : OpR X (compareOp o3) r3) (ha : PE X a ta) (hb : PE X b tb) (hc : PE X c tc) (hd : PE X d td)
    (hm : lastMarks [o1, o2, o3] [b, c, d] = false := by with_unfolding_all rfl) : PT X (.Compare a [o1, o2, o3] [b, c, d] pos) (tTest (tChain3 r1 r2 r3 ta tb tc td)) := pt_chN ha (plt_cons h1 hb (plt_cons h2 hc (plt_one h3 hd))) hm
theorem pe_chain4 (h1 : OpR X (compareOp o1) r1) (h2 : OpR X (compareOp o2) r2) (h3 : OpR X (compareOp o3) r3) (h4 : OpR X (compareOp o4) r4) (ha : PE X a ta) (hb : PE X b tb) (hc : PE X c tc) (hd : PE X d td) (he : PE X e te)
    (hm : lastMarks [o1, o2, o3, o4] [b, c, d, e] = false := by with_unfolding_all rfl) : PE X (.Compare a [o1, o2, o3, o4] [b, c, d, e] pos) (tChain4 r1 r2 r3 r4 ta tb tc td te) := pe_chN ha (pl_cons h1 hb (pl_cons h2 hc (pl_cons h3 hd (pl_one h4 he)))) hm
theorem pt_chain4 (h1 : OpR X (compareOp o1) r1) (h2 : OpR X (compareOp o2) r2) (h3 : OpR X (compareOp o3) r3) (h4 : OpR X (compareOp o4) r4) (ha : PE X a ta) (hb : PE X b tb) (hc : PE X c tc) (hd : PE X d td) (he : PE X e te)
    (hm : lastMarks [o1, o2, o3, o4] [b, c, d, e] = false := by with_unfolding_all rfl) : PT X (.Compare a [o1, o2, o3, o4] [b, c, d, e] pos) (tTest (tChain4 r1 r2 r3 r4 ta tb tc td te)) := pt_chN ha (plt_cons h1 hb (plt_cons h2 hc (plt_cons h3 hd (plt_one h4 he)))) hm
end
namespace Y
section
variable {C : Ctx} {δ : List Sl} {w : World} {Φ : D → World → Prop} {ta tb : TE} {tl : V → TE} {r : R2} {a : D}
def EvL (C : Ctx) (tl : V → TE) (a : D) (δ : List Sl) (w : World) (Φ : D → World → Prop) : Prop := ∀ (fz : List (V × D)) (M U : Addr → Prop) (σ : L2.St) (H : Hp) (x : V), Env C fz M U δ w σ H → Dt C.K M H x a → ∀ Q : VK,
  (∀ d v M' U' w' H', Φ d w' → Stp M U H M' U' H' → WOk C.K M' U' w' H' → Dt C.K M' H' v d → Q v H') → tl x σ H Q
theorem ev_chN (h : EvD C ta δ w fun a w1 => EvL C tl a δ w1 Φ) : EvD C (tChN ta tl) δ w Φ := fun fz M U σ H en Q k =>
  h fz M U σ H en _ fun a x M1 U1 w1 H1 h1 x1 k1 d1 => h1 fz M1 U1 σ H1 x (en.stp x1 k1) d1 Q fun d v M2 U2 w2 H2 p x2 k2 d2 => k d v M2 U2 w2 H2 p (en.tr x1 x2) k2 d2
theorem el_one (h : EvD C tb δ w fun b w2 => RY C.K r a b w2 Φ) : EvL C (tL1 r tb) a δ w Φ := fun fz M U σ H x en da Q k =>
  h fz M U σ H en _ fun b y M2 U2 w2 H2 h2 x2 k2 d2 => h2 M2 U2 x y H2 k2 (stp_dt en.wk.um x2 da) d2 Q fun d v M3 U3 w3 H3 p x3 => k d v M3 U3 w3 H3 p (en.tr x2 x3)
theorem el_cons (h : EvD C tb δ w fun b w2 => RY C.K r a b w2 fun z w3 => ∃ k, z = .bl k ∧ (k = true → EvL C tl b δ w3 Φ) ∧ (k = false → Φ (.bl false) w3)) : EvL C (tLn r tb tl) a δ w Φ := fun fz M U σ H x en da Q k =>
  h fz M U σ H en _ fun b y M2 U2 w2 H2 h2 x2 k2 d2 => h2 M2 U2 x y H2 k2 (stp_dt en.wk.um x2 da) d2 _ fun z v M3 U3 w3 H3 ⟨kk, ez, h3, h4⟩ x3 k3 d3 => by
    subst ez
    cases d3
    refine ⟨kk, rfl, ?_⟩
    have x23 := en.tr x2 x3
    cases kk with
    | true => exact h3 rfl fz M3 U3 σ H3 y (en.stp x23 k3) (stp_dt k2.um x3 d2) Q fun d v M4 U4 w4 H4 p x4 k4 d4 => k d v M4 U4 w4 H4 p (en.tr x23 x4) k4 d4
    | false => exact k _ _ M3 U3 w3 H3 (h4 rfl) x23 k3 (.bl false)
/-- a sorted list -/
theorem rc_sorted {K : PySem.W.Frag} {ns : List Int} (q : ∀ ns' : List Int, ns'.Perm ns → ns'.Pairwise (· ≤ ·) → ∀ p, w p = none → Φ (.adr p) (w.set p (.p (.lst (ns'.map D.int))))) : RCY K (rSortedI K) [.lst (ns.map D.int)] w Φ := fun M U vs H k dd Q kk => by
  obtain ⟨v, rfl, dv⟩ := dt1 dd
  obtain ⟨a, us, rfl, n1, g1, dl⟩ := dt_lst dv
  have hi : ∀ {us : List V} {ns : List Int}, DtL K M H us (ns.map D.int) → us = ns.map V.int := by
    intro us ns
    induction ns generalizing us with
    | nil => intro h; cases h; rfl
    | cons n r ih =>
      intro h
      cases h with
      | cons a b =>
        cases a
        rw [ih b]
        rfl
  have hj : ∀ (ns : List Int), DtL K M H (ns.map V.int) (ns.map D.int) := by
    intro ns
    induction ns with
    | nil => exact .nil
    | cons n r ih => exact .cons (.int _) ih
  have e := hi dl
  subst e
  refine ⟨a, ns, rfl, SqL.of g1, fun ns' p hp hs hn => ?_⟩
  obtain ⟨k2, x2⟩ := new_cell k hn (hj ns')
  exact kk _ _ _ _ _ _ (q ns' hp hs p (k.free hn)) x2 k2 (.adr p)
theorem ev_sortedT {K : PySem.W.Frag} {tr : TA} (hK : K = C.K) (h : EvA C tr δ w fun ds w1 => ∃ ns : List Int, ds = [.lst (ns.map D.int)] ∧ ∀ ns' : List Int, ns'.Perm ns → ns'.Pairwise (· ≤ ·) → Φ (.lst (ns'.map D.int)) w1) : EvD C (tCB (rSortedI K) tr) δ w Φ := by
  subst hK
  refine ev_frz (ev_cb (h.mono fun ds w1 ⟨ns, e, q⟩ => ?_))
  subst e
  exact rc_sorted fun ns' hp hs p hn => ⟨p, _, rfl, set_same, by rw [set_del hn]; exact q ns' hp hs⟩
/-- o.m(..) whose answer is a new list -/
theorem ev_mtN {c : Addr} {nm : Str} {n : Nat} {F : Wn.FNew} {t : TA} (h : EvD C ta δ w fun o w1 => Recv c nm o w1 ∧ EvA C t δ w1 fun ds w2 => ds.length = n ∧ F (o :: ds) (fun xs => ∀ p, w2 p = none → Φ (.adr p) (w2.set p (.p (.lst xs)))) Wn.noX) : EvD C (tMt c nm n (liftN C.K pureM F) gvAll C.E ta t) δ w Φ := fun fz M U σ H en Q k =>
  h fz M U σ H en _ fun o x M1 U1 w1 H1 ⟨hr, h1⟩ x1 k1 d1 => by
    obtain ⟨a, dx, fs, rfl, ha, hl⟩ := recv_at k1 d1 hr
    refine ⟨a, dx, fs, rfl, ha, hl, h1 fz M1 U1 σ H1 (en.stp x1 k1) _ fun ds vs M2 U2 w2 H2 ⟨l1, h2⟩ x2 k2 d2 => ⟨d2.length.trans l1, M2, o :: ds, Wn.noX, _, fun _ z => z.elim, k2.al, ?_, trivial, TakesX.no, h2, fun xs p us H' q hp e _ lp dl => ?_⟩⟩
    · show DtL _ _ _ ((V.ref a :: vs) ++ []) _
      rw [List.append_nil]
      exact .cons (stp_dt k1.um x2 d1) d2
    · have s : Same H2 H' := fun a o => e a o id
      obtain ⟨k3, x3⟩ := k2.new (o' := .lst xs) s hp (by rw [lp]; exact fun z => by cases z) ⟨us, lp, dl⟩
      exact k (.adr p) (.ref p) _ _ _ H' (q p (k2.free hp)) (en.tr (en.tr x1 x2) x3) k3 (.adr p)
end
end Y
end Wn
end

section
/-! Slices, joins, over worlds; more is no less. -/
namespace Wn
namespace Y
open PySem PySem.Spec PyProof.Rows L2
def cutB (l : List Bool) (lo hi : Option Int) : List Bool := (l.drop (HT.sIx l.length 0 lo)).take (HT.sIx l.length l.length hi - HT.sIx l.length 0 lo)
theorem cut_row (l : List Bool) (lo hi : Option Int) : cutS (rowS l) lo hi = rowS (cutB l lo hi) := by
  unfold cutS cutB
  rw [row_cps, row_len]
  unfold rowS
  rw [List.map_take, List.map_drop]
theorem cutB_nat (l : List Bool) {a b : Nat} (h1 : a ≤ b) (h2 : b ≤ l.length) : cutB l (some (a : Int)) (some (b : Int)) = (l.drop a).take (b - a) := by
  unfold cutB
  rw [HT.sIx_nat, HT.sIx_nat, Nat.min_eq_left (show a ≤ l.length by omega), Nat.min_eq_left h2]
theorem take_cut (l : List Bool) {a b : Nat} (h1 : a ≤ b) : l.take a ++ (l.drop a).take (b - a) = l.take b := by
  rw [← List.take_add, show a + (b - a) = b by omega]
theorem rs_str {K : PySem.W.Frag} {w : World} {Φ : D → World → Prop} {x : Str} {lo hi : Option Int} (hl : x.length ≤ sizeLine) (q : Φ (.str (cutS x lo hi)) w) : RSY K (rSlU K) (.str x) lo hi w Φ := fun M U v H k d Q kk => by
  cases d
  exact .inr (.inr ⟨x, rfl, hl, kk _ _ M U w H q .refl k (.str _)⟩)
theorem rs_row {K : PySem.W.Frag} {w : World} {Φ : D → World → Prop} {l : List Bool} {lo hi : Option Int} (hl : l.length ≤ 10000) (q : Φ (rowD (cutB l lo hi)) w) : RSY K (rSlU K) (rowD l) lo hi w Φ := rs_str (by rw [row_len, sizeLine_eq]; omega) (by rw [cut_row]; exact q)
theorem rs_tup {K : PySem.W.Frag} {w : World} {Φ : D → World → Prop} {xs : List D} {lo hi : Option Int} (nw : ¬ (HT.sIx xs.length 0 lo = 0 ∧ HT.sIx xs.length xs.length hi = xs.length)) (q : Φ (.tup (cutD xs lo hi)) w) : RSY K (rSlU K) (.tup xs) lo hi w Φ := fun M U v H k d Q kk => by
  obtain ⟨a, vs, rfl, g1, dl⟩ := dt_tup d
  refine .inr (.inl ⟨a, vs, rfl, g1, by rw [dl.length]; exact nw, fun p hp => ?_⟩)
  exact kk _ _ M U w _ q (.of_same (same_new hp)) (k.same (same_new hp)) (.tup (fun z => k.al p z hp) (.inl upd_same) ((dtl_cut lo hi dl).ext (.of_same (same_new hp))))
theorem rs_lst {K : PySem.W.Frag} {w : World} {Φ : D → World → Prop} {xs : List D} {lo hi : Option Int} (q : Φ (.lst (cutD xs lo hi)) w) : RSY K (rSlU K) (.lst xs) lo hi w Φ := fun M U v H k d Q kk => by
  obtain ⟨a, vs, rfl, n1, g1, dl⟩ := dt_lst d
  refine .inl ⟨a, vs, rfl, SqL.of g1, fun p hp => ?_⟩
  exact kk _ _ M U w _ q (.of_same (same_new hp)) (k.same (same_new hp)) (.lst (fun z => k.al p z hp) upd_same ((dtl_cut lo hi dl).ext (.of_same (same_new hp))))
theorem rs_lstC {K : PySem.W.Frag} {w : World} {Φ : D → World → Prop} {xs : List D} {a : Addr} {lo hi : Option Int} (h : w a = some (.p (.lst xs))) (q : Φ (.lst (cutD xs lo hi)) w) : RSY K (rSlU K) (.adr a) lo hi w Φ := fun M U v H k d Q kk => by
  cases d
  obtain ⟨_, vs, g1, dl⟩ := k.cell h
  refine .inl ⟨a, vs, rfl, SqL.of g1, fun p hp => ?_⟩
  exact kk _ _ M U w _ q (.of_same (same_new hp)) (k.same (same_new hp)) (.lst (fun z => k.al p z hp) upd_same ((dtl_cut lo hi dl).ext (.of_same (same_new hp))))
theorem rm_join {K : PySem.W.Frag} {w : World} {Φ : D → World → Prop} {x : Str} {ys : List Str} (hl : (ys.map (·.length)).sum + ys.length * x.length ≤ 16777216) (q : Φ (.str (Txt.join x ys)) w) : RMY K (rJoinU K) (.str x) [.lst (ys.map D.str)] w Φ := fun M U v vs H k d1 d2 Q kk => by
  cases d1
  obtain ⟨v, rfl, dv⟩ := dt1 d2
  obtain ⟨p, us, rfl, n1, g1, dl⟩ := dt_lst dv
  have := dtl_strs dl
  subst this
  exact ⟨x, p, ys, rfl, rfl, .inl (SqL.of g1), hl, kk _ _ M U w H q .refl k (.str _)⟩
/-- ''.join([.. for k in range(n)]), each a sign -/
theorem ev_rowOf {C : Ctx} {δ : List Sl} {w : World} {ta : TA} {te : TE} {Φ : D → World → Prop} {K : PySem.W.Frag} (hK : K = C.K) (n : Int) {j : Nat} (h : EvA C ta δ w fun ds w1 => ds = [.int n] ∧ w1 = w) (hn : n ≤ 99999 ∧ 0 ≤ n)
    (hs : ∀ k : Nat, EvD C te ((wipeS δ [j]).set j (.d (.int (k : Int)))) w fun d w1 => ∃ b, d = sgD b ∧ w1 = w) (q : ∀ l : List Bool, (l.length : Int) = n → Φ (rowD l) w) :
    EvD C (tBM K "str" (rJoinU K) (tC (.str "")) (tCons (tLc (iRng1 ta) (gName j) tYes te [j]) tNil)) δ w Φ := by
  subst hK
  refine ev_bm (ev_str ⟨ty_str, ea_cons (ev_lc (fun k acc w' => w' = w ∧ ∃ l : List Bool, acc = l.map sgD ∧ l.length = k) (ei_R (h.mono fun ds w1 ⟨e, ew⟩ => ⟨n, e, ⟨by omega, by omega⟩, ?_⟩)))⟩)
  subst ew
  refine ⟨⟨rfl, [], rfl, rfl⟩, by omega, fun _ _ _ _ => trivial, ?_, ?_⟩
  · rintro k x acc w' hk rfl ⟨rfl, l, rfl, hl⟩
    refine gc_name (List.mem_singleton.mpr rfl) (et_yes ⟨fun _ => (hs k).mono fun d w1 ⟨b, e, ew⟩ => ⟨ew, l ++ [b], by rw [List.map_append, e]; rfl, by simp [hl]⟩, fun z => (by cases z)⟩)
  · rintro acc w' ⟨rfl, l, rfl, hl⟩
    refine ea_nil ?_
    have e1 : l.map sgD = (l.map fun b => (⟨#[sg b]⟩ : Str)).map D.str := by rw [List.map_map]; rfl
    rw [e1]
    refine rm_join ?_ ?_
    · have e : ((l.map fun b => (⟨#[sg b]⟩ : Str)).map (·.length)).sum = l.length := by
        rw [List.map_map]
        clear hl hs e1
        induction l with
        | nil => rfl
        | cons b r ih => rw [List.map_cons, List.sum_cons, ih, List.length_cons]; show 1 + _ = _; omega
      have e0 : ("" : Str).length = 0 := by decide +kernel
      rw [e, e0]
      omega
    · rw [row_join]
      exact q l (by omega)
theorem rd_addRow {K : PySem.W.Frag} {a b : List Bool} {Φ : D → Prop} (h : a.length + b.length ≤ 10000) (q : Φ (rowD (a ++ b))) : RD K (rAddU K) (rowD a) (rowD b) Φ := by
  refine rd_addS (by rw [row_len, row_len, sizeLine_eq]; omega) ?_
  have e : rowS a ++ rowS b = rowS (a ++ b) := by
    unfold rowS
    rw [List.map_append, ← List.append_toArray]
    rfl
  rw [e]
  exact q
theorem rd_addRowA {K : PySem.W.Frag} {a : List Bool} {Φ : D → Prop} (h : a.length + 1 ≤ 10000) (q : Φ (rowD (a ++ [true]))) : RD K (rAddU K) (rowD a) (.str "a") Φ := by
  rw [askD]
  exact rd_addRow (b := [true]) h q
theorem cutB_to (l : List Bool) {a : Nat} (h : a ≤ l.length) : cutB l none (some (a : Int)) = l.take a := by
  unfold cutB
  rw [HT.sIx_nat, Nat.min_eq_left h]
  rfl
theorem cutB_from (l : List Bool) {a : Nat} (h : a ≤ l.length) : cutB l (some (a : Int)) none = l.drop a := by
  unfold cutB
  rw [HT.sIx_nat, Nat.min_eq_left h, show HT.sIx l.length l.length none = l.length from rfl, ← List.length_drop, List.take_length]
end Y
open PySem PySem.Spec PyProof.Rows L2
theorem after_mono {p : Plan} (ok : p.Ok) {s s' n : Int} (h0 : 0 ≤ s) (h : s ≤ s') (b : Bool) : (p.after (s, n) b).1 ≤ (p.after (s', n) b).1 ∧ (p.after (s, n) b).2 = (p.after (s', n) b).2 := by
  cases b with
  | true =>
    refine ⟨?_, rfl⟩
    show p.asked s ≤ p.asked s'
    have u1 := ok.u1
    have c1 := ok.c1
    unfold Plan.asked
    split <;> split <;> omega
  | false =>
    refine ⟨?_, rfl⟩
    show p.turned s n ≤ p.turned s' n
    obtain ⟨g1, g2, g3, g4⟩ := coming_ok ok n
    unfold Plan.turned
    have : s / (p.coming n).1 ≤ s' / (p.coming n).1 := Int.ediv_le_ediv (by omega) h
    omega
theorem fin_mono {p : Plan} (ok : p.Ok) : ∀ (l : List Bool) {s s' n : Int}, StOk p (s, n) → s ≤ s' → s' ≤ p.cap → (p.fin (s, n) l).1 ≤ (p.fin (s', n) l).1 ∧ (p.fin (s, n) l).2 = (p.fin (s', n) l).2
  | [], s, s', n, _, h, _ => ⟨h, rfl⟩
  | b :: r, s, s', n, so, h, h' => by
    obtain ⟨m1, m2⟩ := after_mono (n := n) ok so.1 h b
    have a1 := fin_ok ok [b] (x := (s, n)) so
    have a2 := fin_ok ok [b] (x := (s', n)) ⟨by have := so.1; show 0 ≤ s'; have : (0 : Int) ≤ s := so.1; omega, h', so.2.2⟩
    have a1' : StOk p (p.after (s, n) b) := a1
    have a2' : StOk p (p.after (s', n) b) := a2
    show (p.fin (p.after (s, n) b) r).1 ≤ (p.fin (p.after (s', n) b) r).1 ∧ (p.fin (p.after (s, n) b) r).2 = (p.fin (p.after (s', n) b) r).2
    have e1 : p.after (s, n) b = ((p.after (s, n) b).1, (p.after (s', n) b).2) := by rw [← m2]
    rw [e1] at a1'
    have := fin_mono ok r a1' m1 a2'.2.1
    rw [e1]
    exact this
end Wn
end

section
/-! The kinds, read over worlds. -/
namespace Wn
namespace Y
open PySem PySem.Spec PyProof.Rows L2
section
variable {C : Ctx} {δ : List Sl} {w : World} {ta tb tc : TE} {Φ : D → World → Prop} {K : PySem.W.Frag}
theorem ev_momentI (hK : K = C.K) (h : EvD C ta δ w fun d w1 => ∃ i, d = .int i ∧ Φ (.bl (decide (0 ≤ i ∧ i ≤ 10 ^ 30))) w1) : EvD C (tCl 1 0 (Wn.lift K pureM (F_is_moment K)) gvAll C.E (tCons ta tNil) tNil) δ w Φ := by
  subst hK
  exact ev_clP gAll' (ea_cons (h.mono fun d w1 ⟨i, e, q⟩ => ea_nil (ea_nil ⟨rfl, rfl, d, rfl, by rw [e]; simp [D.tyn], by rw [e]; exact q⟩)))
theorem ev_sizeI (hK : K = C.K) (h : EvD C ta δ w fun d w1 => ∃ i, d = .int i ∧ Φ (.bl (decide (0 ≤ i ∧ i ≤ 10 ^ 9))) w1) : EvD C (tCl 1 0 (Wn.lift K pureM (F_is_size K)) gvAll C.E (tCons ta tNil) tNil) δ w Φ := by
  subst hK
  exact ev_clP gAll' (ea_cons (h.mono fun d w1 ⟨i, e, q⟩ => ea_nil (ea_nil ⟨rfl, rfl, d, rfl, by rw [e]; simp [D.tyn], by rw [e]; exact q⟩)))
theorem ev_strengthI (hK : K = C.K) (h : EvD C ta δ w fun d w1 => ∃ i, d = .int i ∧ Φ (.bl (decide (1 ≤ i ∧ i ≤ 10 ^ 9))) w1) : EvD C (tCl 1 0 (Wn.lift K pureM (F_is_strength K)) gvAll C.E (tCons ta tNil) tNil) δ w Φ := by
  subst hK
  exact ev_clP gAll' (ea_cons (h.mono fun d w1 ⟨i, e, q⟩ => ea_nil (ea_nil ⟨rfl, rfl, d, rfl, by rw [e]; simp [D.tyn], by rw [e]; exact q⟩)))
theorem ev_wholeI (hK : K = C.K) (h : EvD C ta δ w fun d w1 => ∃ i, d = .int i ∧ Φ (.bl true) w1) : EvD C (tCl 1 0 (Wn.lift K pureM (F_is_whole K)) gvAll C.E (tCons ta tNil) tNil) δ w Φ := by
  subst hK
  exact ev_clP gAll' (ea_cons (h.mono fun d w1 ⟨i, e, q⟩ => ea_nil (ea_nil ⟨rfl, rfl, d, rfl, by rw [e]; simp [D.tyn], by rw [e]; exact q⟩)))
theorem ev_withinI (hK : K = C.K) (h : EvD C ta δ w fun d w1 => ∃ i, d = .int i ∧ EvD C tb δ w1 fun b w2 => ∃ lo, b = .int lo ∧ EvD C tc δ w2 fun c w3 => ∃ hi, c = .int hi ∧ Φ (.bl (decide (lo ≤ i ∧ i ≤ hi))) w3) : EvD C (tCl 3 0 (Wn.lift K pureM (F_is_within K)) gvAll C.E (tCons ta (tCons tb (tCons tc tNil))) tNil) δ w Φ := by
  subst hK
  exact ev_clP gAll' (ea_cons (h.mono fun d w1 ⟨i, e, h⟩ => ea_cons (h.mono fun b w2 ⟨lo, eb, h⟩ => ea_cons (h.mono fun c w3 ⟨hi, ec, q⟩ => ea_nil (ea_nil ⟨rfl, rfl, d, lo, hi, by rw [eb, ec]; rfl, by rw [e]; simp [D.tyn], by rw [e]; exact q⟩)))))
theorem ev_isrow (hK : K = C.K) (h : EvD C ta δ w fun d w1 => ∃ l : List Bool, d = rowD l ∧ l.length ≤ 10000 ∧ Φ (.bl (decide (l.length ≤ 200))) w1) : EvD C (tCl 1 0 (Wn.lift K pureM (F_is_row K)) gvAll C.E (tCons ta tNil) tNil) δ w Φ := by
  subst hK
  refine ev_clP gAll' (ea_cons (h.mono fun d w1 ⟨l, e, hl, q⟩ => ea_nil (ea_nil ⟨rfl, rfl, d, rfl, ⟨by rw [e]; simp [D.tyn, rowD], fun x ex => ?_⟩, by rw [e, rowB_row]; exact q⟩)))
  rw [e] at ex
  cases ex
  rw [row_len]
  omega
end
theorem gMk {K : PySem.W.Frag} {n j : Nat} : ∀ (M : Addr → Prop) (H : Hp) (x : Addr) (vs zs : List V) (ds es : List D), ds.length = n → es.length = j → DtL K M H vs ds → DtL K M H zs es → DtL K M H (gvAll (.ref x :: vs) zs) (gdAll (.adr x :: ds) es) := fun M H x vs zs ds es _ _ a b => gAll M H (.ref x :: vs) zs (.adr x :: ds) es (.cons (.adr x) a) b
end Y
end Wn
end

section
/-! Exceptions of the text's own classes: raised, caught, handed on. -/
namespace Wn
open PySem PySem.Spec PyProof.Rows L2
/-- B's __init__ is ValueError's -/
structure BaseX (K : PySem.W.Frag) (B : Addr) : Prop where
  ga : PySem.W.specialIn K (.ref B) "__getattribute__" = some (some (.builtin "type.__getattribute__"))
  ty : PySem.W.typeIn K (.ref B) = some (.type "type")
  rd : PySem.W.readsIn K B (.type "type") = true
  fv : PySem.W.findCls K (.ref B) (.type "type") "__init__" = some (.val (.builtin "ValueError.__init__"))
section
variable {X : Cx} {B : Addr} {x : Str} {e : Expr} {es : List Expr} {ta : TA} {p1 p2 pos : Pos}
/-- B.__init__(self, ..) within the __init__ of a class under B -/
theorem pe_weinit {pl : Sem Bool} (b : BaseX X.K B) (hg : Gl X x) (hm : X.mg x = some (.ref B)) (ha : PA X (e :: es) ta)
    (hc : eval (.Call (.Attribute (.Name x p1) "__init__" p2) (e :: es) [] pos) X.env = (do
      let ov ← eval (.Name x p1) X.env
      standAt p2.atName
      let (f, first) ← holding [ov] (getMethod ov "__init__" pl)
      callWith pos f first (backTo pos (starEach (e :: es) X.env)) (backToKw pos (keywordEach [] X.env))) := by rfl)
    (hdb : (x == ("__debug__" : Str)) = false := by decide) (he : starEach (e :: es) X.env = (false, eval e X.env) :: starEach es X.env := by rfl) (hpl : (backTo pos (starEach es X.env)).any (·.1) = false := by rfl) :
    PE X (.Call (.Attribute (.Name x p1) "__init__" p2) (e :: es) [] pos) (tVeI X.K ta) := by
  refine ⟨fun pins s σ H Q I h => PySem.W.methodCall_KW (ld_glob I hg hm ?_ hdb) hc⟩
  obtain ⟨m, fr⟩ := I.fr
  refine PySem.W.method_of_cls fr I.ok.mod.kin b.ga (PySem.W.cls_val fr I.ok.mod.kin b.ty b.rd b.fv (by decide +kernel) ?_)
  show wpAny _ _ (callWith pos (Value.builtin "ValueError.__init__") [] (backTo pos (starEach (e :: es) X.env)) []) _ _ _
  refine PyProof.Rows.callWith_method1 (thn (ha.run pos pins _ σ H _ (I.tok _) h) fun us s1 hw => ?_) he hpl
  obtain ⟨vs, H1, I1, r1, a, C, ws, ev, hl, T, ea, q⟩ := hw
  subst ev
  cases r1 with
  | @cons _ u0 _ ur ra rr =>
    have e0 : u0 = Value.ref a := ra
    subst e0
    have hz : ur.length ≤ sizeLine := by rw [← Paired.length rr, sizeLine_eq]; omega
    exact oinit_ok T I1 ea hz fun s' J => ⟨.non, H1, J, rfl, q⟩
end
/-- what C's own __init__ does: one field -/
def spX1 (K : PySem.W.Frag) (C : Addr) (f : Str) : Sp := fun vs H Q _ => ∃ (a : Addr) (y : V), vs = [.ref a, y] ∧ OexC K C ∧ PySem.W.findIn K (.ref C) f = some none ∧ H a = some (exo a C none) ∧
  ∀ dx, H dx = none → dx ≠ a → Q .non (L2.upd (L2.upd H dx (exd dx [(f, y)])) a (exo a C (some dx)))
theorem spX1_len {K : PySem.W.Frag} {C : Addr} {f : Str} : ∀ vs H Q E, spX1 K C f vs H Q E → vs.length = 2 := fun vs H Q E ⟨a, y, e, _⟩ => by rw [e]; rfl
/-- its reading -/
def t_X1 (K : PySem.W.Frag) (nm f : Str) : TS := tSeq (tDrop (tVeI K (tCons (tVar 0) (tCons (tC (.str nm)) tNil)))) (tOst K f (tVar 0) (tVar 1))
theorem pure_X1 {K : PySem.W.Frag} {C : Addr} {f nm fx : Str} {vs : List V} {H : Hp} {Q : VK} {E : XK} (h : spX1 K C f vs H Q E) : t_X1 K nm f { nx := fun _ H' => Q .non H', rt := Q } (L2.start ["self", fx] vs) H := by
  obtain ⟨a, y, rfl, T, hf, ha, q⟩ := h
  refine ⟨.ref a, rfl, ?_⟩
  refine ⟨a, C, [.str nm], rfl, Nat.le_of_ble_eq_true rfl, T, ha, ?_⟩
  refine ⟨y, rfl, .ref a, rfl, a, C, rfl, T, hf, .inl ⟨ha, q⟩⟩

/-! ### a caught exception: a cell of its own -/
/-- how the exception stands in memory while the suite holds it -/
def exh (oe : Obj) (a : Addr) : HO := .frz oe (.own a)
theorem HOk.held {P : Program} {w : PySem.World} {H : Hp} {h : Heap} {a : Addr} {oe : Obj} (x : HOk P w H h) (hn : H a = none) (he : h.get? a = some oe) : HOk P w (L2.upd H a (exh oe a)) h := fun b u e => by
  by_cases hb : b = a
  · subst hb
    rw [upd_same] at e
    cases e
    exact ⟨he, oe, he⟩
  · rw [upd_ne hb] at e
    refine (x b u e).stay (fun c v _ q => q) (fun c q => ?_) (fun c v q => ?_)
    · rw [upd_ne (ne_of_none q hn)]; exact q
    · rw [upd_ne (ne_of_none q hn)]; exact q
abbrev Hd := Value × Option Nat × (Addr → Value → Option Addr → TS)
/-- the suite of a clause, at the slots as they stand -/
def suiteAt (D : Ends) (ts : TS) (r : V) : Option Nat → L2.St → Hp → Prop
  | none => fun σ H => ts D σ H
  | some i => fun σ H => ts { nx := fun σ' H' => D.nx (σ'.set i none) H', rt := D.rt, bk := fun σ' H' => D.bk (σ'.set i none) H', ct := fun σ' H' => D.ct (σ'.set i none) H' } (σ.set i (some r)) H
/-- what the clauses, one behind another, wish of an exception of the body -/
def wTry (K : PySem.W.Frag) (Wout : WX) (D : Ends) : List Hd → WX
  | [] => Wout
  | (c, i, ts) :: r => fun cls d σ H => ∃ b, PySem.W.exmOne K cls c = some b ∧
      (b = true → ∀ a oe, H a = none → Zc cls d oe → (∃ vs, oe.data = .fields vs) → suiteAt D (ts a cls d) (.ref a) i σ (L2.upd H a (exh oe a))) ∧ (b = false → wTry K Wout D r cls d σ H)
def tTry (K : PySem.W.Frag) (Wout : WX) (l : List Hd) (tb : WX → TS) : TS := fun D σ H => tb (wTry K Wout D l) D σ H
inductive HdX (X : Cx) : List ExceptHandler → List Hd → Prop
  | nil : HdX X [] []
  | one {x : Str} {c : Value} {ts : Addr → Value → Option Addr → TS} {b₀ : Stmt} {suite : List Stmt} {np pos' : Pos} {hds : List ExceptHandler} {l : List Hd} (hc : Names X x c)
      (hsu : ∀ (a : Addr) (cls : Value) (d : Option Addr) (pn : List (Addr × Obj)), PSs (X.suite a pn) (b₀ :: suite) (ts a cls d)) (r : HdX X hds l) :
      HdX X (.ExceptHandler (some (.Name x np)) none (b₀ :: suite) pos' :: hds) ((c, none, ts) :: l)
  | as {x n : Str} {i : Nat} {c : Value} {ts : Addr → Value → Option Addr → TS} {b₀ : Stmt} {suite : List Stmt} {np pos' : Pos} {hds : List ExceptHandler} {l : List Hd} (hc : Names X x c) (hN : X.N.Nodup) (hi : X.N[i]? = some n) (hln : X.env.kindOf n = some .local)
      (hsu : ∀ (a : Addr) (cls : Value) (d : Option Addr) (pn : List (Addr × Obj)), PSs (X.suite a pn) (b₀ :: suite) (ts a cls d)) (r : HdX X hds l) :
      HdX X (.ExceptHandler (some (.Name x np)) (some n) (b₀ :: suite) pos' :: hds) ((c, some i, ts) :: l)
section
variable {X : Cx} {pins : List (Addr × Obj)} {σ : L2.St} {H : Hp} {s : Shared}
/-- the suite's context: the exception is a cell of its own -/
theorem Inv.held (I : Inv X pins σ H s) {a : Addr} {oe : Obj} {vs : Array Value} (ha : s.heap.get? a = some oe) (hd : oe.data = .fields vs) (na : H a = none) (nL : a ≠ X.env.locals) (hp : ∀ p ∈ X.pn ++ pins, p.1 ≠ a) (h0 : X.s_0.heap.get? a = none) :
    Inv (X.suite a (X.pn ++ pins)) [] σ (L2.upd H a (exh oe a)) s :=
  ⟨I.ok.suite _ _, I.os, I.bare, ⟨I.base.keep, I.base.slot, fun b o q n z => by rw [upd_ne (fun z => by rw [z, h0] at q; cases q)]; exact I.base.free b o q n z, I.base.there,
      fun b xs q => by have z := I.base.tups b xs q; rw [upd_ne (ne_of_none z na)]; exact z,
      fun b o u q => by have z := I.base.frzs b o u q; rw [upd_ne (ne_of_none z na)]; exact z,
      fun b ps q => by obtain ⟨m, z⟩ := I.base.tbls b ps q; exact ⟨m, by rw [upd_ne (ne_of_none z na)]; exact z⟩⟩,
    I.loc, I.cell, by rw [upd_ne (Ne.symm nL)]; exact I.free, fun y c q => by
      have nc : c ≠ a := fun z => by
        obtain ⟨v, hv⟩ := I.cell y c q
        rw [z] at hv
        obtain ⟨o, ho, hdo⟩ := hv
        rw [ha] at ho
        cases ho
        rw [hd] at hdo
        cases hdo
      rw [upd_ne nc]
      exact I.freeC y c q,
    fun p hp' => by
      have hm : p ∈ X.pn ++ pins := by rw [List.append_nil] at hp'; exact hp'
      obtain ⟨g1, g2, g3, g4, g5⟩ := I.pin p hm
      exact ⟨g1, by rw [upd_ne (hp p hm)]; exact g2, g3, g4, g5⟩,
    HOk.held I.hok na ha, I.len⟩
theorem Inv.unheld {a : Addr} {pn' : List (Addr × Obj)} (I : Inv (X.suite a (X.pn ++ pins)) pn' σ H s) (ok : X.Ok) : Inv X pins σ H s :=
  ⟨ok, I.os, I.bare, I.base, I.loc, I.cell, I.free, I.freeC, fun p hp => I.pin p (List.mem_append_left _ hp), I.hok, I.len⟩
end
section
variable {X : Cx} {body : List Stmt} {hd0 : ExceptHandler} {hds : List ExceptHandler} {l : List Hd} {pos : Pos} {tb : WX → TS} {Wout : WX}
/-- try: body, except clauses with and without a name; the suites have the exception as a cell -/
theorem ps_tryX (hst : X.stack = X.env :: X.outer) (hfr0 : X.env.frame = some X.env.locals) (hex : X.ex = []) (tko : Takes X Wout)
    (hbody : ∀ (W : WX) (pn : List (Addr × Obj)) (xe : Value → Shared → Prop), Takes (X.tr pn xe) W → PSs (X.tr pn xe) body (tb W))
    (hcl : HdX X (hd0 :: hds) l) : PS X (.Try body (hd0 :: hds) [] [] pos) (tTry X.K Wout l tb) := by
  refine ⟨fun pins s σ H D I h => ?_⟩
  have okX := I.ok
  have frA : X.A.frames = some (X.env :: X.outer) := by rw [okX.frames, hst]
  refine wpAny_Try_except ?_
  refine wpAny_mono ((hbody (wTry X.K Wout D l) (X.pn ++ pins) (fun e sA => wpAny (model X.prog X.w) X.A (noteFrame e X.env) (fun _ sB => wpAny (model X.prog X.w) X.A (setFlight e none) (fun _ sC =>
    wpAny (model X.prog X.w) X.A (handleBy e X.env (hd0 :: hds)) (SP X pins D) X.xe sC) X.xe sB) X.xe sA) (fun u s' caught => ?_)).run [] s σ H D (I.toTry _) h) (fun fl sE ended => ?_) (fun e sE z => z)
  · obtain ⟨a, B, sR, pinsR, σR, HR, cls, d, rfl, JR, keepB, upR, skyR, noneR, osR, bareR, wish⟩ := caught
    have J : L2.Inv X pins σR HR sR := JR.ofTry okX
    have skyR2 : Sky B (X.env :: X.outer) a (Zc cls d) X.env.locals s'.heap := by rw [← hst]; exact skyR
    show wpAny (model X.prog X.w) X.A (noteFrame (.ref a) X.env) _ _ _
    refine Sky.land Zc.steady frA hfr0 skyR2 fun hL flL upL => ?_
    have JL : L2.Inv X pins σR HR { s' with heap := hL } := J.landed keepB flL.1 (upR.trans upL) osR bareR
    obtain ⟨oeL, vsL, getL, clsL, fldL⟩ := flL.there
    have notFrame : ∀ {g : Heap} {o : Obj} {vs : Array Value}, g.FunFrames B (X.env :: X.outer) → g.get? a = some o → o.data = .fields vs → a ∉ frs (X.env :: X.outer) := fun {g o vs} ff e dd hm => by
      obtain ⟨_, o2, e2, no2⟩ := ff.mem hm
      rw [e] at e2
      cases e2
      exact no2 _ dd
    have nfA := notFrame flL.2.2.1 getL fldL
    have neL : a ≠ X.env.locals := fun z => nfA (List.mem_filterMap.mpr ⟨X.env, List.mem_cons_self, by rw [hfr0, z]⟩)
    have neF : a ∉ X.fs := fun hm => by
      obtain ⟨e, he, q⟩ := List.mem_filterMap.mp hm
      exact nfA (List.mem_filterMap.mpr ⟨e, List.mem_cons_of_mem _ he, q⟩)
    have newB : B.get? a = none := flL.2.1
    have fresh : ∀ o, sR.heap.get? a = some o → False := fun o q => by
      have z := keepB a o q (by rw [hst]; exact nfA)
      rw [newB] at z
      cases z
    have fresh0 : X.s_0.heap.get? a = none := by
      cases q : X.s_0.heap.get? a with
      | none => rfl
      | some o =>
        obtain ⟨o2, q2⟩ := J.base.there a o q (by rw [hex]; exact List.not_mem_nil)
        exact (fresh o2 q2).elim
    have freshP : ∀ p ∈ X.pn ++ pins, p.1 ≠ a := fun p hp z => by
      obtain ⟨q, _⟩ := J.pin p hp
      rw [z] at q
      exact fresh _ q
    have walk : ∀ {hs2 : List ExceptHandler} {l2 : List Hd}, HdX X hs2 l2 → wTry X.K Wout D l2 cls d σR HR → wpAny (model X.prog X.w) X.A (handleBy (.ref a) X.env hs2) (SP X pins D) X.xe { s' with heap := hL } := by
      have asked : ∀ {x : Str} {c : Value} {np : Pos} {Q : Value → Shared → Prop} {E : Value → Shared → Prop}, Names X x c → Q c { s' with heap := hL } → wpAny (model X.prog X.w) (X.A.mark (some (.ref a))) (eval (.Name x np) X.env) Q E { s' with heap := hL } := fun {x c np Q E} hc q => by
        have SL := JL.suite getL fldL noneR neL neF
        obtain ⟨hg, hdbg, hm | ⟨hm, hv, hnn⟩⟩ := hc
        · exact ld_glob (X := X.suite a ((a, oeL) :: (X.pn ++ pins))) SL hg hm q hdbg
        · exact ld_blt (X := X.suite a ((a, oeL) :: (X.pn ++ pins))) SL hg hm hv q hnn hdbg
      have looked : ∀ {c : Value} {b : Bool}, PySem.W.exmOne X.K cls c = some b → PySem.W.Looks (model X.prog X.w) hL (excMatches (.ref a) c) b := fun {c b} hb => by
        have ty : PySem.W.Looks (model X.prog X.w) hL (typeOf (.ref a)) cls := fun A Q E sx k q => wpAny_typeOf_ref (k _ _ getL) (by rw [clsL.1]; exact q)
        exact PySem.W.exm_one (M := model X.prog X.w) (JL.kIn) ty hb
      have land : ∀ {oe : Obj} {vs : Array Value} {g : Heap}, g.get? a = some oe → oe.data = .fields vs → B.StaysIn g → hL.UpToSlots g → L2.Inv (X.suite a (X.pn ++ pins)) [] σR (L2.upd HR a (exh oe a)) { s' with heap := g } := fun {oe vs g} e1 e2 e3 e4 =>
        Inv.held (J.landed (s' := { s' with heap := g }) keepB e3 ((upR.trans upL).trans e4) osR bareR) e1 e2 noneR neL freshP fresh0
      intro hs2 l2 hk
      induction hk with
      | nil =>
        intro w
        refine wpAny_handleBy_nil ?_
        obtain ⟨z1, z2, z3, oe, vs, T, oT, tz, he, hz, hd, g1, hr⟩ := id flL
        unfold PySem.passOn
        refine wpAny_bind (wpAny_field he hd g1 ?_)
        rw [if_neg (show ¬ ((Value.ref T == Value.none) = true) from by simp)]
        have away : wpAny (model X.prog X.w) X.A (setFlight (.ref a) X.env.frame) (fun _ sF => wpAny (model X.prog X.w) X.A (throw (.ref a) : Sem Flow) (SP X pins D) X.xe sF) X.xe { s' with heap := hL } := by
          rw [hfr0]
          refine HandSPX.setFlight_upZ flL fun hM held upM => wpAny_throw (tko _ _ ?_)
          exact ⟨a, B, sR, pins, σR, HR, cls, d, rfl, J, keepB, (upR.trans upL).trans upM, .inr (.inr (by rw [hst]; exact held)), noneR, osR, bareR, w⟩
        first
          | exact wpAny_bind (wpAny_pure (wpAny_bind away))
          | exact wpAny_bind away
      | @one x c ts b₀ suite np pos' hds2 l2 hc hsu r ih =>
        intro w
        obtain ⟨b, hb, yes, no⟩ := w
        refine wpAny_handleBy_cons (codeAny_handlers_test ?_) (by intro q; cases q)
        refine asked hc ((looked hb).here ?_)
        cases b with
        | true =>
          refine codeAny_handlers_suite ?_
          refine HandSPX.lands_againZ flL fun hM flM upM => ?_
          obtain ⟨oeM, vsM, getM, clsM, fldM⟩ := flM.there
          have SM := land getM fldM flM.1 upM
          refine wpAny_mono ((hsu a cls d (X.pn ++ pins)).run [] _ _ _ _ SM (yes rfl a oeM noneR clsM ⟨_, fldM⟩)) (fun fl sF fin => ?_) (fun _ _ z => False.elim z)
          cases fl with
          | next =>
            obtain ⟨σF, HF, SF, qF⟩ := fin
            exact ⟨_, _, Inv.unheld SF okX, qF⟩
          | brk =>
            obtain ⟨σF, HF, SF, qF⟩ := fin
            exact ⟨_, _, Inv.unheld SF okX, qF⟩
          | cont =>
            obtain ⟨σF, HF, SF, qF⟩ := fin
            exact ⟨_, _, Inv.unheld SF okX, qF⟩
          | ret u =>
            obtain ⟨vF, σF, HF, SF, rF, qF⟩ := fin
            exact ⟨_, _, _, Inv.unheld SF okX, rF, qF⟩
        | false =>
          show wpAny _ X.A (handleBy (.ref a) X.env hds2) _ _ _
          exact ih (no rfl)
      | @as x n i c ts b₀ suite np pos' hds2 l2 hc hN hi hln hsu r ih =>
        intro w
        obtain ⟨b, hb, yes, no⟩ := w
        have hloc : Loc X.env.scope n := .inl hln
        refine wpAny_handleBy_cons (codeAny_handlers_test ?_) (by intro q; cases q)
        refine asked hc ((looked hb).here ?_)
        cases b with
        | true =>
          refine codeAny_handlers_suite_as ?_
          refine HandSPX.lands_againZ flL fun hM flM upM => ?_
          obtain ⟨oeM, vsM, getM, clsM, fldM⟩ := flM.there
          have SM := land getM fldM flM.1 upM
          refine store_ok (X := X.suite a (X.pn ++ pins)) (v := .ref a) SM hN hi hloc rfl (fun sN SN => ?_) (.inr hln)
          refine wpAny_mono ((hsu a cls d (X.pn ++ pins)).run [] sN _ _ _ SN (yes rfl a oeM noneR clsM ⟨_, fldM⟩)) (fun fl sF fin => ?_) (fun _ _ z => False.elim z)
          have wiped : ∀ {σF : L2.St} {HF : Hp} {Q : Shared → Prop}, L2.Inv (X.suite a (X.pn ++ pins)) [] σF HF sF → (∀ sG, L2.Inv X pins (σF.set i none) HF sG → Q sG) →
              wpAny (model X.prog X.w) X.A (do bindName X.env n .none; unbindBehindTheSuite X.env n pos') (fun _ sG => Q sG) X.xe sF := fun {σF HF Q} SF hq => gone_ok (Inv.unheld SF okX) hN hi hln hq
          cases fl with
          | next =>
            obtain ⟨σF, HF, SF, qF⟩ := fin
            exact wiped SF fun sG JG => ⟨_, _, JG, qF⟩
          | brk =>
            obtain ⟨σF, HF, SF, qF⟩ := fin
            exact wiped SF fun sG JG => ⟨_, _, JG, qF⟩
          | cont =>
            obtain ⟨σF, HF, SF, qF⟩ := fin
            exact wiped SF fun sG JG => ⟨_, _, JG, qF⟩
          | ret u =>
            obtain ⟨vF, σF, HF, SF, rF, qF⟩ := fin
            exact wiped SF fun sG JG => ⟨_, _, _, JG, rF, qF⟩
        | false =>
          show wpAny _ X.A (handleBy (.ref a) X.env hds2) _ _ _
          exact ih (no rfl)
    exact walk hcl wish
  · cases fl with
    | next =>
      obtain ⟨σF, HF, JF, qF⟩ := ended
      exact wpAny_execs_nil ⟨σF, HF, JF.ofTry okX, qF⟩
    | brk =>
      obtain ⟨σF, HF, JF, qF⟩ := ended
      exact ⟨σF, HF, JF.ofTry okX, qF⟩
    | cont =>
      obtain ⟨σF, HF, JF, qF⟩ := ended
      exact ⟨σF, HF, JF.ofTry okX, qF⟩
    | ret u =>
      obtain ⟨vF, σF, HF, JF, rF, qF⟩ := ended
      exact ⟨vF, σF, HF, JF.ofTry okX, rF, qF⟩
end

/-! ### what is read of a caught exception -/
theorem held_at {P : Program} {w : PySem.World} {H : Hp} {h : Heap} {a : Addr} {oe : Obj} (ok : HOk P w H h) (ha : H a = some (exh oe a)) : h.get? a = some oe := (show ObjOk P w H h a (.frz oe (.own a)) from ok a _ ha).1
def tEf (K : PySem.W.Frag) (n : Str) (te : TE) : TE := fun σ H Q => te σ H fun x H1 => ∃ (a : Addr) (oe : Obj) (vs : Array Value) (C dd : Addr) (fv : List (Str × V)) (v : V),
  x = .ref a ∧ H1 a = some (exh oe a) ∧ Zc (.ref C) (some dd) oe ∧ oe.data = .fields vs ∧ (XfC K C ∧ PySem.W.findIn K (.ref C) n = some none) ∧ H1 dd = some (.xd fv) ∧ fv.lookup n = some v ∧ Q v H1
/-- isinstance of it: one class, or a tuple of classes -/
def isOf (K : PySem.W.Frag) (t : Value) (c : V) (H : Hp) (b : Bool) : Prop := (∃ cv, (∀ u, RelV c u → u = cv) ∧ PySem.W.kitOne K t cv = some b) ∨
  ∃ tp xs, c = .ref tp ∧ SqT K H tp xs ∧ ∀ its, Vals xs its → PySem.W.kitAny K t its = some b
def rIsX (K : PySem.W.Frag) : List V → Hp → VK → Prop := fun xs H Q => ∃ (a : Addr) (oe : Obj) (vs : Array Value) (C : Addr) (d : Option Addr) (c : V) (b : Bool), xs = [.ref a, c] ∧ H a = some (exh oe a) ∧ Zc (.ref C) d oe ∧ oe.data = .fields vs ∧
  (∀ dd, d = some dd → ∃ fv, H dd = some (.xd fv)) ∧ ExcC K C ∧ isOf K (.ref C) c H b ∧ Q (.bl b) H
section
variable {X : Cx} {e : Expr} {te : TE} {n : Str} {pos : Pos}
theorem pe_ef (he : PE X e te) (hb : attributeBase e n X.env (eval e X.env) = eval e X.env := by rfl) : PE X (.Attribute e n pos) (tEf X.K n te) := by
  refine ⟨fun pins s σ H Q I h => attr_of hb (thn (he.run pins s σ H _ I h) fun u s1 got => ?_)⟩
  obtain ⟨x, H1, I1, rx, a, oe, vs, C, dd, fv, v, ex, ea, ⟨z1, z2⟩, hd, ⟨T, hno⟩, edd, l, q⟩ := got
  subst ex
  obtain rfl : u = Value.ref a := rx
  have getA := held_at I1.hok ea
  obtain ⟨mA, hns, hr⟩ := (show ObjOk X.prog X.w H1 s1.heap dd (.xd fv) from I1.hok dd _ edd)
  obtain ⟨od, ho, hl⟩ := lookIn_ns hns
  obtain ⟨w, hw, rw_⟩ := RelO.some_of (v := v) (o := mA n) (by rw [← l]; exact hr n)
  have J : PySem.W.InstAt s1.heap a oe C (some od) := ⟨getA, z1, by unfold PySem.W.notCls; rw [hd] <;> rfl, by rw [z2]; exact ho⟩
  exact HandSPX.exc_get I1.kIn J T.ga T.gg T.exC (PySem.W.findObj_own T.hdC hno rfl (by rw [hl, hw])) (handed_of rw_) ⟨v, H1, I1.tok _, rw_, q⟩
theorem cr_isX : CallR X (.builtin "isinstance") (rIsX X.K) := by
  intro pins s σ H xs us Q I r h
  obtain ⟨a, oe, vs, C, d, c, b, rfl, ea, ⟨z1, z2⟩, hd, hdd, T, hc, q⟩ := h
  cases r with
  | cons ra rr =>
    cases rr with
    | cons rt rr =>
      cases rr
      cases ra
      have getA := held_at I.hok ea
      obtain ⟨od, hod⟩ : ∃ od : Option Obj, PySem.W.InstAt s.heap a oe C od := by
        cases d with
        | none => exact ⟨none, getA, z1, by unfold PySem.W.notCls; rw [hd] <;> rfl, by rw [z2]; trivial⟩
        | some dd =>
          obtain ⟨fv, edd⟩ := hdd dd rfl
          obtain ⟨mA, hns, hr⟩ := (show ObjOk X.prog X.w H s.heap dd (.xd fv) from I.hok dd _ edd)
          obtain ⟨od, ho, hl⟩ := lookIn_ns hns
          exact ⟨some od, getA, z1, by unfold PySem.W.notCls; rw [hd] <;> rfl, by rw [z2]; exact ho⟩
      have isC : (PySem.W.clsIn X.K C).isSome = true := by
        obtain ⟨cd, hcd, _⟩ := PySem.W.any_some T.hd
        rw [hcd]
        rfl
      have Z := PySem.W.kitx_exc (K := X.K) (x := a) (C := C) (ox := oe) (od := od) isC T.hg T.hk T.hs T.ha T.hn T.ht T.hm
      rcases hc with ⟨cv, hcv, hk⟩ | ⟨tp, ys, rfl, rt2, hk⟩
      · have e1 := hcv _ rt
        subst e1
        exact PySem.W.kia_one Z I.kIn hod hk (fun z => nomatch z) fun tk => ⟨.bl b, H, I.kept (t' := tk) fun _ _ z => z, rfl, q⟩
      · cases rt
        rcases rt2 with rt2 | ⟨o, ita, m, lk, hcl, hda, _, hv⟩
        · obtain ⟨_, its, hv, o, ho, hcl, m, hda⟩ := rt2.ok I.hok
          obtain ⟨oc, odd, oda, osl⟩ := o
          dsimp only at hcl hda
          subst hcl hda
          exact PySem.W.kia_tup Z I.kIn hod ho (hk _ hv) (fun z => nomatch z) fun tk => ⟨.bl b, H, I.kept (t' := tk) fun _ _ z => z, rfl, q⟩
        · obtain ⟨oc, odd, oda, osl⟩ := o
          dsimp only at hcl hda
          subst hcl hda
          exact PySem.W.kia_tup (its := ita.toList) (n := m) (dd := odd) (sl := osl) Z I.kIn hod (I.kIn _ _ lk) (hk _ hv) (fun z => nomatch z) fun tk => ⟨.bl b, H, I.kept (t' := tk) fun _ _ z => z, rfl, q⟩
end

/-! ### raise C(..); calls in a try's body -/
def tRs (cx : Addr) (sp : Sp) (W : WX) (ta : TA) : TS := fun _ σ H => tMkO cx sp [] ta σ H fun cls d H' => W cls d σ H'
theorem ps_rs {X : Cx} {cx fI : Addr} {k : Nat} {fd : FuncData} {ps : List Str} {sp : Sp} {x : Str} {p pos pos' : Pos} {e : Expr} {es : List Expr} {ta : TA} {W : WX} (T : OexC X.K cx) (iC : PySem.W.findIn X.K (.ref cx) "__init__" = some (some (.ref fI))) (tI : PySem.W.typeIn X.K (.ref fI) = some (.type "function"))
    (F : FnOk X.prog X.w X.K X.mg X.base CX0 k fI fd ps sp) (hr : Room (k + 1) X.A) (hb : Binds X.K fd ps []) (hcalm : X.calm = true) (tk : Takes X W) (hg : Gl X x) (hm : X.mg x = some (.ref cx)) (ha : PA X (e :: es) ta)
    (hdb : (x == ("__debug__" : Str)) = false := by decide) (he : starEach (e :: es) X.env = (false, eval e X.env) :: starEach es X.env := by rfl) (hpl : (backTo pos (starEach es X.env)).any (·.1) = false := by rfl) :
    PS X (.Raise (some (.Call (.Name x p) (e :: es) [] pos)) none pos') (tRs cx sp W ta) := ps_raise hcalm tk (pmk_oex T iC tI F hr hb .nil pass0 hg hm ha hdb he hpl)
/-- a call of which an exception leaves as W wishes, by the slots as they stand -/
def tClW (n m : Nat) (sp : Sp) (gV : List V → List V → List V) (W : WX) (t tk : TA) : TE := fun σ H Q => tCl n m sp gV (WE W σ) t tk σ H Q
def tMtW (C : Addr) (m : Str) (n : Nat) (sp : Sp) (gV : List V → List V → List V) (W : WX) (ta : TE) (t : TA) : TE := fun σ H Q => tMt C m n sp gV (WE W σ) ta t σ H Q
def tMkW (C : Addr) (n m : Nat) (sp : Sp) (gV : List V → List V → List V) (W : WX) (t tk : TA) : TE := fun σ H Q => tMk C n m sp gV (WE W σ) t tk σ H Q
theorem tClW_c {n m : Nat} {sp : Sp} {gV : List V → List V → List V} {E : XK} {t tk : TA} : tClW n m sp gV (fun cls d _ H => E cls d H) t tk = tCl n m sp gV E t tk := rfl
theorem tMtW_c {C : Addr} {m : Str} {n : Nat} {sp : Sp} {gV : List V → List V → List V} {E : XK} {ta : TE} {t : TA} : tMtW C m n sp gV (fun cls d _ H => E cls d H) ta t = tMt C m n sp gV E ta t := rfl
theorem tMkW_c {C : Addr} {n m : Nat} {sp : Sp} {gV : List V → List V → List V} {E : XK} {t tk : TA} : tMkW C n m sp gV (fun cls d _ H => E cls d H) t tk = tMk C n m sp gV E t tk := rfl
section
variable {X : Cx} {CX : CXT} {k : Nat} {f C : Addr} {fd : FuncData} {ps ks : List Str} {sp : Sp} {E : XK} {W : WX} {x m : Str} {p pos apos : Pos} {e o : Expr} {es : List Expr} {kws : List Keyword} {ta : TE} {t tk : TA}
  {pins : List (Addr × Obj)} {σ : L2.St} {H : Hp} {s : Shared} {Q : VK} {us ws : List Value} {vs zs : List V} {n : Nat} {gV : List V → List V → List V}
theorem passE_at : PassesAt CX0 X σ E := fun _ _ _ _ _ _ h => h.elim
/-- at one state of the slots -/
theorem back_at {r : Result} {s' : Shared} (hx : PassesAt CX X σ E) (I : L2.Inv X pins σ H s) (hq : CR CX X.stack X.prog X.w H s Q E r s') :
    (match r with | .ok (.ret u) => EP X pins σ Q u s' | .ok _ => False | .error e => X.xe e s') := by
  cases r with
  | error e => exact hx pins H s e s' I hq
  | ok fl => cases fl with
    | ret u => exact I.after hq
    | _ => exact False.elim hq
theorem run_at (F : FnG X.prog X.w X.K X.mg X.base CX k f fd ps sp) (hr : Room k X.A) (hG : Quiet X.A) (hb : Bd X.K fd ps n ks gV) (hx : PassesAt CX X σ E) (I : L2.Inv X pins σ H s)
    (r : Vals vs us) (rz : Vals zs ws) (l1 : vs.length = n) (l2 : zs.length = ks.length) (h : sp (gV vs zs) H Q E) : wpAny (model X.prog X.w) X.A (call (.ref f) us (ks.zip ws)) (EP X pins σ Q) X.xe s := by
  obtain ⟨bs, h1, h2⟩ := hb.to s vs zs us ws I.kIn (r.length.symm.trans l1) (rz.length.symm.trans l2) r rz
  refine wpAny_call (codeAny_mono (F.run X.A X.stack s H ⟨us, ks.zip ws⟩ bs (gV vs zs) Q E hr hG I.env0 h1 h2 h) fun r s' hq => ?_)
  have b := back_at hx I hq
  cases r with
  | error e => exact b
  | ok fl => cases fl with
    | ret u => exact b
    | _ => exact b.elim
theorem pg_callW (F : FnG X.prog X.w X.K X.mg X.base CX k f fd ps sp) (hr : Room k X.A) (hG : Quiet X.A) (hg : Gl X x) (hm : X.mg x = some (.ref f)) (hk : PySem.W.keepIn X.K (.ref f) = true) (hb : Bd X.K fd ps n [] gV) (hx : ∀ σ, PassesAt CX X σ (WE W σ))
    (ha : PA X (e :: es) t) (hdb : (x == ("__debug__" : Str)) = false := by decide) (he : starEach (e :: es) X.env = (false, eval e X.env) :: starEach es X.env := by rfl) (hpl : (backTo pos (starEach es X.env)).any (·.1) = false := by rfl) :
    PE X (.Call (.Name x p) (e :: es) [] pos) (tClW n 0 sp gV W t tNil) := by
  refine ⟨fun pins s σ H Q I h => wpAny_Call_Name_kw (ld_glob I hg hm ?_ hdb)⟩
  refine PySem.W.callWith_K (h₀ := X.base) I.ok.mod.kin hk (thn (ha.run pos pins s σ H _ I h) fun us s1 ⟨vs, H1, I1, r, l1, _, q⟩ => ⟨I1.kIn, ?_⟩) he hpl
  exact run_at (ks := []) F hr hG hb (hx σ) I1 r .nil l1 rfl q
theorem pg_callKW (F : FnG X.prog X.w X.K X.mg X.base CX k f fd ps sp) (hr : Room k X.A) (hG : Quiet X.A) (hg : Gl X x) (hm : X.mg x = some (.ref f)) (hk : PySem.W.keepIn X.K (.ref f) = true) (hb : Bd X.K fd ps n ks gV) (hx : ∀ σ, PassesAt CX X σ (WE W σ))
    (ha : PA X (e :: es) t) (hkw : PK X kws tk) (hall : (backToKw pos (keywordEach kws X.env)).all (·.1.isSome) = true := by rfl) (hks : (backToKw pos (keywordEach kws X.env)).filterMap (·.1) = ks := by rfl)
    (hdb : (x == ("__debug__" : Str)) = false := by decide) (he : starEach (e :: es) X.env = (false, eval e X.env) :: starEach es X.env := by rfl)
    (hpl : ((backTo pos (starEach (e :: es) X.env)).any (·.1) || (backToKw pos (keywordEach kws X.env)).any (·.1.isNone)) = false := by rfl) :
    PE X (.Call (.Name x p) (e :: es) kws pos) (tClW n ks.length sp gV W t tk) := by
  refine ⟨fun pins s σ H Q I h => wpAny_Call_Name_kw (ld_glob I hg hm ?_ hdb)⟩
  refine PySem.W.callWith_KW (h₀ := X.base) I.ok.mod.kin hk hall (thn (ha.run pos pins s σ H _ I h) fun us s1 ⟨vs, H1, I1, r, q⟩ => ?_) hpl he
  refine thn (hkw.run pos pins s1 σ H1 _ I1 q) fun ws s2 ⟨zs, H2, I2, rz, l1, l2, q2⟩ => ⟨I2.kIn, ?_⟩
  rw [hks]
  exact run_at F hr hG hb (hx σ) I2 r rz l1 l2 q2
theorem pg_methW {pl : Sem Bool} (he : PE X o ta) (c : Cls X.K C) (hm : Meth X.K C m f) (F : FnG X.prog X.w X.K X.mg X.base CX k f fd ps sp) (hr : Room k X.A) (hG : Quiet X.A) (hb : Bd X.K fd ps (n + 1) [] gV) (hx : ∀ σ, PassesAt CX X σ (WE W σ)) (ha : PA X (e :: es) t)
    (hst : starEach (e :: es) X.env = (false, eval e X.env) :: starEach es X.env := by rfl) (hpl : (backTo pos (starEach es X.env)).any (·.1) = false := by rfl)
    (ht : eval (.Call (.Attribute o m apos) (e :: es) [] pos) X.env = (do
      let ov ← eval o X.env
      standAt apos.atName
      let (f, first) ← holding [ov] (getMethod ov m pl)
      callWith pos f first (backTo pos (starEach (e :: es) X.env)) (backToKw pos (keywordEach [] X.env))) := by rfl) :
    PE X (.Call (.Attribute o m apos) (e :: es) [] pos) (tMtW C m n sp gV W ta t) := by
  refine ⟨fun pins s σ H Q I h => PySem.W.methodCall_KW (pl := pl) (thn (he.run pins s σ H _ I h) fun u s1 ⟨x, H1, I1, rx, a, dx, fs, ex, ea, l, q⟩ => ?_) ht⟩
  subst ex
  obtain rfl : u = Value.ref a := rx
  refine getmeth_ok I1 ea c hm l ?_
  refine PySem.W.callWith_K (first := [.ref a]) (h₀ := X.base) I.ok.mod.kin hm.kp (thn (ha.run pos pins s1 σ H1 _ I1 q) fun us s2 ⟨vs, H2, I2, r, l1, q2⟩ => ⟨I2.kIn, ?_⟩) hst hpl
  exact run_at (ks := []) (us := .ref a :: us) (vs := .ref a :: vs) F hr hG hb (hx σ) I2 (.cons rfl r) .nil (by rw [List.length_cons, l1]) rfl q2
theorem pg_meth0W {pl : Sem Bool} (he : PE X o ta) (c : Cls X.K C) (hm : Meth X.K C m f) (F : FnG X.prog X.w X.K X.mg X.base CX k f fd ps sp) (hr : Room k X.A) (hG : Quiet X.A) (hb : Bd X.K fd ps 1 [] gV) (hx : ∀ σ, PassesAt CX X σ (WE W σ))
    (ht : eval (.Call (.Attribute o m apos) [] [] pos) X.env = (do
      let ov ← eval o X.env
      standAt apos.atName
      let (f, first) ← holding [ov] (getMethod ov m pl)
      callWith pos f first (backTo pos (starEach [] X.env)) (backToKw pos (keywordEach [] X.env))) := by rfl) :
    PE X (.Call (.Attribute o m apos) [] [] pos) (tMtW C m 0 sp gV W ta tNil) := by
  refine ⟨fun pins s σ H Q I h => PySem.W.methodCall_KW (pl := pl) (thn (he.run pins s σ H _ I h) fun u s1 ⟨x, H1, I1, rx, a, dx, fs, ex, ea, l, q⟩ => ?_) ht⟩
  subst ex
  obtain rfl : u = Value.ref a := rx
  refine getmeth_ok I1 ea c hm l ?_
  exact PySem.W.callWith_K0 (first := [.ref a]) I1.kIn hm.kp (run_at (ks := []) (us := [.ref a]) (vs := [.ref a]) F hr hG hb (hx σ) I1 (.cons rfl .nil) .nil rfl rfl q.2)
end

/-! ### the facts of a class -/
def eqV (a b : Option Value) : Bool := decide (a = b)
def oexB (K : PySem.W.Frag) (C : Addr) : Bool :=
  (match K.lookup C with
    | some ⟨.type t, _, .cls cd, sl⟩ => t == "type" && (match cd.mro with | .ref c :: bm => c == C && PySem.HandSPX.refsVE bm | _ => false) && cd.hasDict && !cd.hasDel && (match sl.toList with | [_, _, _, _, some (.builtin z), _] => z == "ValueError.__new__" | _ => false)
    | _ => false) &&
  (decide (PySem.W.findIn K (.ref C) "__setattr__" = some (some (.builtin "object.__setattr__"))) && (decide (PySem.W.subIn K (.ref C) (.type "BaseException") = some true) && (decide (PySem.W.typeIn K (.ref C) = some (.type "type")) && PySem.W.keepIn K (.ref C))))
theorem oexB_ok {K : PySem.W.Frag} {C : Addr} (h : oexB K C = true) : OexC K C := by
  unfold oexB at h
  rw [Bool.and_eq_true_iff, Bool.and_eq_true_iff, Bool.and_eq_true_iff, Bool.and_eq_true_iff] at h
  obtain ⟨h1, h2, h3, h4, h5⟩ := h
  refine ⟨?_, of_decide_eq_true h2, of_decide_eq_true h3, of_decide_eq_true h4, h5⟩
  clear h2 h3 h4 h5
  split at h1
  · rename_i t dd cd sl e
    rw [Bool.and_eq_true_iff, Bool.and_eq_true_iff, Bool.and_eq_true_iff, Bool.and_eq_true_iff] at h1
    obtain ⟨⟨⟨⟨g1, g2⟩, g3⟩, g4⟩, g5⟩ := h1
    obtain ⟨nm, bs, mro, N, q, hdct, sn, sub, ab, col, del⟩ := cd
    dsimp only at g2 g3 g4
    cases mro with
    | nil => cases g2
    | cons c0 bm =>
      cases c0 with
      | ref c =>
        rw [Bool.and_eq_true_iff] at g2
        obtain ⟨g6, g7⟩ := g2
        have e1 : t = "type" := by simpa using g1
        have e2 : c = C := by simpa using g6
        have e3 : del = false := by simpa using g4
        subst e1 e2 e3 g3
        split at g5
        · rename_i k0 k1 k2 k3 z k5 el
          have e4 : z = "ValueError.__new__" := by simpa using g5
          subst e4
          refine ⟨nm, q, N, bs, bm, sn, sub, ab, col, dd, k0, k1, k2, k3, k5, ?_, g7⟩
          rw [e]
          have esl : sl = #[k0, k1, k2, k3, some (.builtin "ValueError.__new__"), k5] := Array.toList_inj.mp el
          rw [esl]
        · cases g5
      | _ => cases g2
  · cases h1
/-- a class with one field, made by its own __init__ -/
structure XCls (K : PySem.W.Frag) (nm f : Str) : Prop where
  ox : OexC K (He.ga K nm)
  ini : PySem.W.findIn K (.ref (He.ga K nm)) "__init__" = some (some (.ref (He.ma K (He.ga K nm) "__init__")))
  tI : PySem.W.typeIn K (.ref (He.ma K (He.ga K nm) "__init__")) = some (.type "function")
  nf : PySem.W.findIn K (.ref (He.ga K nm)) f = some none
  xf : XfC K (He.ga K nm)
  xc : ExcC K (He.ga K nm)
def excB (K : PySem.W.Frag) (D : Addr) : Bool := decide (PySem.W.findIn K (.ref D) "__getattribute__" = some (some (.builtin "BaseException.__getattribute__"))) && (decide (PySem.W.findIn K (.ref D) "__getattr__" = some none) && (decide (PySem.W.subIn K (.ref D) (.type "BaseException") = some true) &&
  (PySem.W.hasDictIn K D && (decide (PySem.W.findIn K (.ref D) "__class__" = some (some (.builtin "object.__class__"))) && (decide (PySem.W.specialIn K (.builtin "object.__class__") "__get__" = some (some (.builtin "getset_descriptor.__get__"))) && (decide (PySem.W.takesIn K (.builtin "object.__class__") = some true) && decide (PySem.W.mroIn K D (.type "object") = some true)))))))
theorem excB_ok {K : PySem.W.Frag} {D : Addr} (h : excB K D = true) : ExcC K D := by
  obtain ⟨h1, h⟩ := Bool.and_eq_true_iff.mp h
  obtain ⟨h2, h⟩ := Bool.and_eq_true_iff.mp h
  obtain ⟨h3, h⟩ := Bool.and_eq_true_iff.mp h
  obtain ⟨h4, h⟩ := Bool.and_eq_true_iff.mp h
  obtain ⟨h5, h⟩ := Bool.and_eq_true_iff.mp h
  obtain ⟨h6, h⟩ := Bool.and_eq_true_iff.mp h
  obtain ⟨h7, h8⟩ := Bool.and_eq_true_iff.mp h
  exact ⟨of_decide_eq_true h1, of_decide_eq_true h2, of_decide_eq_true h3, h4, of_decide_eq_true h5, of_decide_eq_true h6, of_decide_eq_true h7, of_decide_eq_true h8⟩
def xclsB (K : PySem.W.Frag) (nm f : Str) : Bool := oexB K (He.ga K nm) && (He.eqO (PySem.W.findIn K (.ref (He.ga K nm)) "__init__") (some (some (.ref (He.ma K (He.ga K nm) "__init__")))) && (eqV (PySem.W.typeIn K (.ref (He.ma K (He.ga K nm) "__init__"))) (some (.type "function")) &&
  (He.eqO (PySem.W.findIn K (.ref (He.ga K nm)) f) (some none) && (xfB K (He.ga K nm) && excB K (He.ga K nm)))))
theorem xclsB_ok {K : PySem.W.Frag} {nm f : Str} (h : xclsB K nm f = true) : XCls K nm f := by
  obtain ⟨h1, h⟩ := Bool.and_eq_true_iff.mp h
  obtain ⟨h2, h⟩ := Bool.and_eq_true_iff.mp h
  obtain ⟨h3, h⟩ := Bool.and_eq_true_iff.mp h
  obtain ⟨h4, h⟩ := Bool.and_eq_true_iff.mp h
  obtain ⟨h5, h6⟩ := Bool.and_eq_true_iff.mp h
  exact ⟨oexB_ok h1, He.eqO_ok h2, of_decide_eq_true h3, He.eqO_ok h4, xfB_ok h5, excB_ok h6⟩
def baseB (K : PySem.W.Frag) (nm : Str) : Bool := He.eqO (PySem.W.specialIn K (.ref (He.ga K nm)) "__getattribute__") (some (some (.builtin "type.__getattribute__"))) && (eqV (PySem.W.typeIn K (.ref (He.ga K nm))) (some (.type "type")) &&
  (PySem.W.readsIn K (He.ga K nm) (.type "type") && (match PySem.W.findCls K (.ref (He.ga K nm)) (.type "type") "__init__" with | some (.val (.builtin z)) => z == "ValueError.__init__" | _ => false)))
theorem baseB_ok {K : PySem.W.Frag} {nm : Str} (h : baseB K nm = true) : BaseX K (He.ga K nm) := by
  obtain ⟨h1, h⟩ := Bool.and_eq_true_iff.mp h
  obtain ⟨h2, h⟩ := Bool.and_eq_true_iff.mp h
  obtain ⟨h3, h4⟩ := Bool.and_eq_true_iff.mp h
  refine ⟨He.eqO_ok h1, of_decide_eq_true h2, h3, ?_⟩
  split at h4
  · rename_i z e
    have ez : z = "ValueError.__init__" := by simpa using h4
    rw [e, ez]
  · cases h4
def exmB (K : PySem.W.Frag) (a b : Str) (v : Bool) : Bool := decide (PySem.W.exmOne K (.ref (He.ga K a)) (.ref (He.ga K b)) = some v)
theorem exmB_ok {K : PySem.W.Frag} {a b : Str} {v : Bool} (h : exmB K a b v = true) : PySem.W.exmOne K (.ref (He.ga K a)) (.ref (He.ga K b)) = some v := of_decide_eq_true h
def kitB1 (K : PySem.W.Frag) (a b : Str) (v : Bool) : Bool := decide (PySem.W.kitOne K (.ref (He.ga K a)) (.ref (He.ga K b)) = some v)
theorem kitB1_ok {K : PySem.W.Frag} {a b : Str} {v : Bool} (h : kitB1 K a b v = true) : PySem.W.kitOne K (.ref (He.ga K a)) (.ref (He.ga K b)) = some v := of_decide_eq_true h
def kitBT (K : PySem.W.Frag) (a : Str) (n : String) (v : Bool) : Bool := decide (PySem.W.kitOne K (.ref (He.ga K a)) (.type n) = some v)
theorem kitBT_ok {K : PySem.W.Frag} {a : Str} {n : String} {v : Bool} (h : kitBT K a n v = true) : PySem.W.kitOne K (.ref (He.ga K a)) (.type n) = some v := of_decide_eq_true h
def sysB (K : PySem.W.Frag) : Bool := (K.lookup PySem.sysModules).isSome
theorem sysB_ok {K : PySem.W.Frag} (h : sysB K = true) : SysOk K := Option.isSome_iff_exists.mp h
/-- the head with the statics at hand (what is read of a class asks them) -/
def obsZG (n : Nat) (fa : List He.Fa) (fn : List He.DefD) (ex : PySem.W.Frag → Bool) (g : Addr → Option Obj) : AlX := obsX fa fn ex (He.frG g (PySem.cStatics :: PySem.sysModules :: He.asD g n))
def hookZ (n : Nat) (fa : List He.Fa) (fn : List He.DefD) (ex : PySem.W.Frag → Bool) : PySem.W.Hook where
  α := AlX
  obs := fun s => obsZG n fa fn ex s.heap.get?
  val := fun _ => valX fn
  says := fun _ h => ∃ K : PySem.W.Frag, K.In h ∧ SaysX fa fn ex K
  of := fun _ _ e => ⟨_, He.frG_in, ⟨congrArg (fun z : AlX => z.2) e, congrArg (fun z : AlX => z.1) e⟩⟩
  keeps := fun _ _ _ ⟨K, hK, c⟩ k => ⟨K, PySem.W.Frag.In.keeps hK k, c⟩
theorem obsZG_eq {n : Nat} {fa : List He.Fa} {fn : List He.DefD} {ex : PySem.W.Frag → Bool} {g : Addr → Option Obj} {s : Shared} (h : ∀ a, g a = s.heap.get? a) : obsZG n fa fn ex g = (hookZ n fa fn ex).obs s := by
  have e : g = s.heap.get? := funext h
  rw [e] <;> rfl
end Wn
end

section
/-! Dicts among data, things by their addresses. -/
namespace Wn
namespace Y
open PySem PySem.Spec PyProof.Rows L2
section
variable {C : Ctx} {δ : List Sl} {w : World} {te : TE} {Φ : D → World → Prop}
/-- {} -/
theorem ev_dct0 (q : Φ (.dct []) w) : EvD C tDNewK δ w Φ := fun fz M U σ H en Q k p hp =>
  have s := same_new (o := .dK []) hp
  k (.dct []) (.ref p) M U w _ q (.of_same s) (en.wk.same s) (.dct (fs := []) (fun z => en.wk.al p z hp) upd_same .nil)
/-- {f: v}, v written -/
theorem ev_dct1 {f : Str} {v : V} {d : D} (hd : ∀ M H, Dt C.K M H v d) (q : Φ (.dct [(f, d)]) w) : EvD C (tDisp [(tC (.str f), tC v)]) δ w Φ := fun fz M U σ H en Q k p hp => by
  have s := same_new (o := .dK [(.inr f, v)]) hp
  refine ⟨upd_same, [(.inr f, v)], rfl, by simp, ?_⟩
  rw [upd_upd]
  exact k (.dct [(f, d)]) (.ref p) M U w _ q (.of_same s) (en.wk.same s) (.dct (fs := [(f, v)]) (fun z => en.wk.al p z hp) upd_same (.cons (hd _ _) .nil))
/-- a thing by its address -/
theorem ev_unpin (h : EvD C te δ w fun d w1 => ∃ a e, d = .pin a e ∧ Φ e w1) : EvD C te δ w Φ := fun fz M U σ H en Q k =>
  h fz M U σ H en _ fun d v M1 U1 w1 H1 ⟨a, e, ed, q⟩ x1 k1 d1 => by
    subst ed
    cases d1 with
    | pin d2 => exact k e _ _ _ _ H1 q x1 k1 d2
def D.isR : D → Bool
  | .lst _ => true | .tup _ => true | .obj _ _ => true | .dct _ => true | _ => false
theorem dt_ref {K : PySem.W.Frag} {M : Addr → Prop} {H : Hp} {v : V} {d : D} (h : Dt K M H v d) (r : D.isR d = true) : ∃ a, v = .ref a := by
  cases h with
  | lst _ _ _ => exact ⟨_, rfl⟩
  | tup _ _ _ => exact ⟨_, rfl⟩
  | ktup _ _ => exact ⟨_, rfl⟩
  | obj _ _ _ => exact ⟨_, rfl⟩
  | dct _ _ _ => exact ⟨_, rfl⟩
  | _ => cases r
theorem dtl_pin {K : PySem.W.Frag} {M : Addr → Prop} {H : Hp} : ∀ {vs : List V} {ds : List D}, DtL K M H vs ds → (∀ d ∈ ds, D.isR d = true) → ∃ ps : List (Addr × D), ps.map (·.2) = ds ∧ DtL K M H vs (pinsD ps)
  | _, _, .nil, _ => ⟨[], rfl, .nil⟩
  | _, _, .cons (d := d) h t, hr => by
    obtain ⟨a, rfl⟩ := dt_ref h (hr _ (List.mem_cons_self ..))
    obtain ⟨ps, e, q⟩ := dtl_pin t fun d hd => hr d (List.mem_cons_of_mem _ hd)
    exact ⟨(a, d) :: ps, by rw [← e]; rfl, .cons (.pin h) q⟩
/-- a list's things, by their addresses -/
theorem ev_pins (h : EvD C te δ w fun d w1 => ∃ ds, d = .lst ds ∧ (∀ x ∈ ds, D.isR x = true) ∧ ∀ ps : List (Addr × D), ps.map (·.2) = ds → Φ (.lst (pinsD ps)) w1) : EvD C te δ w Φ := fun fz M U σ H en Q k =>
  h fz M U σ H en _ fun d v M1 U1 w1 H1 ⟨ds, e, hr, q⟩ x1 k1 d1 => by
    subst e
    obtain ⟨a, vs, rfl, n, h1, l⟩ := dt_lst d1
    obtain ⟨ps, e, l2⟩ := dtl_pin l hr
    exact k _ _ _ _ _ H1 (q ps e) x1 k1 (.lst n h1 l2)
end
/-! questions about things of any kind -/
section
variable {K : PySem.W.Frag} {C : Ctx} {δ : List Sl} {w : World} {ta tb tc : TE} {Φ : D → World → Prop}
theorem ev_withinD (hK : K = C.K) (h : EvD C ta δ w fun d w1 => EvD C tb δ w1 fun b w2 => ∃ lo, b = .int lo ∧ EvD C tc δ w2 fun c w3 => ∃ hi, c = .int hi ∧ d.tyn ≠ "" ∧ Φ (.bl (withinB d lo hi)) w3) :
    EvD C (tCl 3 0 (Wn.lift K pureM (F_is_within K)) gvAll C.E (tCons ta (tCons tb (tCons tc tNil))) tNil) δ w Φ := by
  subst hK
  exact ev_clP gAll' (ea_cons (h.mono fun d w1 h => ea_cons (h.mono fun b w2 ⟨lo, e, h⟩ => ea_cons (h.mono fun c w3 ⟨hi, e2, ty, q⟩ => ea_nil (ea_nil ⟨rfl, rfl, d, lo, hi, by rw [e, e2]; rfl, ty, q⟩)))))
theorem ev_wholeD (hK : K = C.K) (h : EvD C ta δ w fun d w1 => d.tyn ≠ "" ∧ Φ (.bl (wholeB d)) w1) : EvD C (tCl 1 0 (Wn.lift K pureM (F_is_whole K)) gvAll C.E (tCons ta tNil) tNil) δ w Φ := by
  subst hK
  exact ev_clP gAll' (ea_cons (h.mono fun d w1 ⟨ty, q⟩ => ea_nil (ea_nil ⟨rfl, rfl, d, rfl, ty, q⟩)))
theorem ev_sizeD (hK : K = C.K) (h : EvD C ta δ w fun d w1 => d.tyn ≠ "" ∧ Φ (.bl (withinB d 0 (10 ^ 9))) w1) : EvD C (tCl 1 0 (Wn.lift K pureM (F_is_size K)) gvAll C.E (tCons ta tNil) tNil) δ w Φ := by
  subst hK
  exact ev_clP gAll' (ea_cons (h.mono fun d w1 ⟨ty, q⟩ => ea_nil (ea_nil ⟨rfl, rfl, d, rfl, ty, q⟩)))
theorem ev_strengthD (hK : K = C.K) (h : EvD C ta δ w fun d w1 => d.tyn ≠ "" ∧ Φ (.bl (withinB d 1 (10 ^ 9))) w1) : EvD C (tCl 1 0 (Wn.lift K pureM (F_is_strength K)) gvAll C.E (tCons ta tNil) tNil) δ w Φ := by
  subst hK
  exact ev_clP gAll' (ea_cons (h.mono fun d w1 ⟨ty, q⟩ => ea_nil (ea_nil ⟨rfl, rfl, d, rfl, ty, q⟩)))
theorem ev_momentD (hK : K = C.K) (h : EvD C ta δ w fun d w1 => d.tyn ≠ "" ∧ Φ (.bl (withinB d 0 (10 ^ 30))) w1) : EvD C (tCl 1 0 (Wn.lift K pureM (F_is_moment K)) gvAll C.E (tCons ta tNil) tNil) δ w Φ := by
  subst hK
  exact ev_clP gAll' (ea_cons (h.mono fun d w1 ⟨ty, q⟩ => ea_nil (ea_nil ⟨rfl, rfl, d, rfl, ty, q⟩)))
theorem ev_rowD (hK : K = C.K) (h : EvD C ta δ w fun d w1 => (d.tyn ≠ "" ∧ ∀ x, d = .str x → x.length ≤ 16777216) ∧ Φ (.bl (rowB d)) w1) : EvD C (tCl 1 0 (Wn.lift K pureM (F_is_row K)) gvAll C.E (tCons ta tNil) tNil) δ w Φ := by
  subst hK
  exact ev_clP gAll' (ea_cons (h.mono fun d w1 ⟨ty, q⟩ => ea_nil (ea_nil ⟨rfl, rfl, d, rfl, ty, q⟩)))
theorem rd_niS {c : Nat} {z : Str} {Ψ : D → Prop} (q : Ψ (.bl (!decide (c ∈ z.cps.toList)))) : RD K (rNiU K) (.str ⟨#[c]⟩) (.str z) Ψ := fun M x y H hM da db Q k => by
  cases da; cases db
  exact .inr ⟨c, z, rfl, rfl, k _ _ H q (same_refl H) (.bl _)⟩
end
/-! tuples joined; a list under way asked for a thing -/
theorem dtl_append {K : PySem.W.Frag} {M : Addr → Prop} {H : Hp} : ∀ {us ws : List V} {xs ys : List D}, DtL K M H us xs → DtL K M H ws ys → DtL K M H (us ++ ws) (xs ++ ys)
  | _, _, _, _, .nil, h => h
  | _, _, _, _, .cons h t, h2 => .cons h (dtl_append t h2)
theorem ry_neC {K : PySem.W.Frag} {w : World} {p : Addr} {xs : List D} {b : D} {Φ : D → World → Prop} (h : w p = some (.p (.lst xs))) (hx : Fit (.lst xs)) (hb : Fit b) (q : Φ (.bl (!PyData.eqv (D.lst xs).py b.py)) w) : RY K (rNeU K) (.adr p) b w Φ := fun M U x y H k d1 d2 Q kk => by
  cases d1
  obtain ⟨_, vs, g1, dl⟩ := k.cell h
  have ho : D.oks 29 xs = true := hx.ok
  exact .inr (.inl ⟨(D.lst xs).py, b.py, .lst (SqL.of g1) (DtL.dp ho dl), d2.dp hb.ok, hx.shaped, hb.shaped, kk _ _ M U w H q .refl k (.bl _)⟩)
theorem rd_addT {K : PySem.W.Frag} {xs ys : List D} {Ψ : D → Prop} (h0 : xs ≠ []) (h1 : ys ≠ []) (hl : xs.length + ys.length ≤ 100000) (q : Ψ (.tup (xs ++ ys))) : RD K (rAddU K) (.tup xs) (.tup ys) Ψ := fun M x y H hM da db Q k => by
  obtain ⟨a, us, rfl, g1, l1⟩ := dt_tup da
  obtain ⟨b, ws, rfl, g2, l2⟩ := dt_tup db
  have e1 := l1.length
  have e2 := l2.length
  refine .inr (.inr (.inr ⟨a, b, us, ws, rfl, rfl, g1, g2, fun z => ?_, by rw [sizeLine_eq]; omega, fun z => ?_, fun _ p hp => ?_⟩))
  · subst z; exact h0 (List.length_eq_zero_iff.mp e1.symm)
  · subst z; exact absurd (List.length_eq_zero_iff.mp e2.symm) h1
  · have s := same_new (o := .tup (us ++ ws)) hp
    exact k _ _ _ q s (.tup (fun z => hM p z hp) (.inl upd_same) ((dtl_append l1 l2).ext (.of_same s)))
theorem ry_inC {K : PySem.W.Frag} {w : World} {a : D} {p : Addr} {xs : List D} {Φ : D → World → Prop} (h : w p = some (.p (.lst xs))) (fa : a.flat = true) (fx : xs.all D.flat = true) (q : Φ (.bl (inV a.v (xs.map D.v))) w) : RY K (rInU K) a (.adr p) w Φ := fun M U x y H k d1 d2 Q kk => by
  cases d2
  obtain ⟨_, vs, g1, dl⟩ := k.cell h
  obtain ⟨e1, f1⟩ := dt_flat d1 fa
  obtain ⟨e2, f2⟩ := dtl_flat dl fx
  refine .inl ⟨p, vs, rfl, .inl (SqL.of g1), f1, f2, ?_⟩
  rw [e1, e2]
  exact kk _ _ M U w H q .refl k (.bl _)
end Y
end Wn
end

section
namespace Wn
open PySem PySem.Spec PyProof.Rows L2
end Wn
namespace Wn.Y.L11
open PySem PySem.Spec PyProof.Rows L2
local macro_rules | `(tactic| o_shape) => `(tactic| first | assumption | rfl | trivial | omega | decide)
local macro_rules | `(tactic| o_reads) => `(tactic| first | fail "no rule" | fail)
local macro_rules | `(tactic| o_reads) => `(tactic| first | (apply Exists.intro; (repeat apply Exists.intro); exact rfl) | fail)
local macro_rules | `(tactic| o_reads) => `(tactic| first | refine And.intro (by omega) ?_ | fail)
local macro_rules | `(tactic| o_reads) => `(tactic| first | refine ⟨_, (by assumption : _ = some (bagO _)), ?_⟩ | fail)
local macro_rules | `(tactic| o_reads) => `(tactic| first | refine And.intro (by assumption) ?_ | fail)
local macro_rules | `(tactic| o_reads) => `(tactic| first | refine And.intro (by assumption : Plan.Ok _) ?_ | fail)
local macro_rules | `(tactic| o_reads) => `(tactic| first | refine ⟨by exact Nat.le_of_ble_eq_true rfl, ?_⟩ | fail)
local macro_rules | `(tactic| o_reads) => `(tactic| first | refine ⟨rfl, ?_⟩ | fail)
local macro_rules | `(tactic| o_reads) => `(tactic| first | refine ⟨_, _, _, _, rfl, ?_⟩ | fail)
local macro_rules | `(tactic| o_reads) => `(tactic| first | refine ⟨_, _, _, rfl, ?_⟩ | fail)
local macro_rules | `(tactic| o_reads) => `(tactic| first | refine ⟨_, _, rfl, ?_⟩ | fail)
local macro_rules | `(tactic| o_reads) => `(tactic| first | refine ⟨_, rfl, ?_⟩ | fail)
local macro_rules | `(tactic| o_reads) => `(tactic| first | refine And.intro (And.intro (by first | decide | omega) (by first | decide | omega)) ?_ | fail)
local macro_rules | `(tactic| o_reads) => `(tactic| first | refine ⟨fit_step (coming_ok (by assumption) _), ?_⟩ | fail)
local macro_rules | `(tactic| o_reads) => `(tactic| first | refine ⟨fit_int ⟨by omega, by omega⟩, ?_⟩ | fail)
local macro_rules | `(tactic| o_reads) => `(tactic| first | with_reducible exact rfl | fail)
local macro_rules | `(tactic| o_reads) => `(tactic| first | exact dn_t (by omega) | fail)
local macro_rules | `(tactic| o_reads) => `(tactic| first | exact dn_f (by omega) | fail)
local macro_rules | `(tactic| o_reads) => `(tactic| first | exact decide_eq_true (by omega) | fail)
local macro_rules | `(tactic| o_reads) => `(tactic| first | exact decide_eq_false (by omega) | fail)
local macro_rules | `(tactic| o_reads) => `(tactic| first | exact (rfl : (!true) = false) | fail)
local macro_rules | `(tactic| o_reads) => `(tactic| first | with_reducible refine spB' (fun z => ?_) (fun z => ?_) | fail)
local macro_rules | `(tactic| o_reads) => `(tactic| first | with_reducible refine spB (fun z => ?_) (fun z => ?_) | fail)
local macro_rules | `(tactic| o_reads) => `(tactic| first | with_reducible refine spN' (fun z => ?_) (fun z => ?_) | fail)
local macro_rules | `(tactic| o_reads) => `(tactic| first | with_reducible refine spN (fun z => ?_) (fun z => ?_) | fail)
local macro_rules | `(tactic| o_reads) => `(tactic| first | refine sprn (fun z => ?_) (fun z => ?_) | fail)
local macro_rules | `(tactic| o_reads) => `(tactic| first | refine spln (fun z => ?_) (fun z => ?_) | fail)
local macro_rules | `(tactic| o_reads) => `(tactic| first | refine spr (fun z => ?_) (fun z => ?_) | fail)
local macro_rules | `(tactic| o_reads) => `(tactic| first | refine spl (fun z => ?_) (fun z => ?_) | fail)
local macro_rules | `(tactic| o_reads) => `(tactic| first | with_reducible refine sqNF ?_ | fail)
local macro_rules | `(tactic| o_reads) => `(tactic| first | with_reducible refine sqNT ?_ | fail)
local macro_rules | `(tactic| o_reads) => `(tactic| first | with_reducible refine spNF ?_ | fail)
local macro_rules | `(tactic| o_reads) => `(tactic| first | with_reducible refine spNT ?_ | fail)
local macro_rules | `(tactic| o_reads) => `(tactic| first | refine sprn (fun _ => ?_) (fun z => absurd z (by omega)) | fail)
local macro_rules | `(tactic| o_reads) => `(tactic| first | refine sprn (fun z => absurd z (by omega)) (fun _ => ?_) | fail)
local macro_rules | `(tactic| o_reads) => `(tactic| first | refine spln (fun _ => ?_) (fun z => absurd z (by omega)) | fail)
local macro_rules | `(tactic| o_reads) => `(tactic| first | refine spln (fun z => absurd z (by omega)) (fun _ => ?_) | fail)
local macro_rules | `(tactic| o_reads) => `(tactic| first | refine spr (fun _ => ?_) (fun z => absurd z (by omega)) | fail)
local macro_rules | `(tactic| o_reads) => `(tactic| first | refine spr (fun z => absurd z (by omega)) (fun _ => ?_) | fail)
local macro_rules | `(tactic| o_reads) => `(tactic| first | refine spl (fun _ => ?_) (fun z => absurd z (by omega)) | fail)
local macro_rules | `(tactic| o_reads) => `(tactic| first | refine spl (fun z => absurd z (by omega)) (fun _ => ?_) | fail)
local macro_rules | `(tactic| o_reads) => `(tactic| first | with_reducible refine sprf ?_ | fail)
local macro_rules | `(tactic| o_reads) => `(tactic| first | with_reducible refine sprt ?_ | fail)
local macro_rules | `(tactic| o_reads) => `(tactic| first | with_reducible refine spff ?_ | fail)
local macro_rules | `(tactic| o_reads) => `(tactic| first | with_reducible refine sptt ?_ | fail)
local macro_rules | `(tactic| o_reads) => `(tactic| first | with_reducible refine eo_part ?_ | fail)
local macro_rules | `(tactic| o_reads) => `(tactic| first | with_reducible refine eo_none ?_ | fail)
local macro_rules | `(tactic| o_reads) => `(tactic| first | ((with_reducible apply pd_tl); decide +kernel) | fail)
local macro_rules | `(tactic| o_reads) => `(tactic| first | with_reducible exact pd_hd | fail)
local macro_rules | `(tactic| o_reads) => `(tactic| first | with_reducible exact pd_nil | fail)
local macro_rules | `(tactic| o_reads) => `(tactic| first | (show Nat.blt _ 1000 = true; rfl) | fail)
local macro_rules | `(tactic| o_reads) => `(tactic| first | ((with_reducible apply lk_tl); decide +kernel) | fail)
local macro_rules | `(tactic| o_reads) => `(tactic| first | with_reducible exact lk_hd | fail)
local macro_rules | `(tactic| o_reads) => `(tactic| first | (((with_reducible apply lsPut); first | assumption | exact set_same); (first | assumption | omega)) | fail)
local macro_rules | `(tactic| o_reads) => `(tactic| first | ((with_reducible apply lsPut2); (first | assumption | omega)) | fail)
local macro_rules | `(tactic| o_reads) => `(tactic| first | ((with_reducible apply lsAt); first | assumption | exact set_same) | fail)
local macro_rules | `(tactic| o_reads) => `(tactic| first | with_reducible refine ev_app rfl ?_ | fail)
local macro_rules | `(tactic| o_reads) => `(tactic| first | ((with_reducible apply fput); first | assumption | exact set_same) | fail)
local macro_rules | `(tactic| o_reads) => `(tactic| first | with_reducible apply fput2 | fail)
local macro_rules | `(tactic| o_reads) => `(tactic| first | ((with_reducible apply fget_C); first | assumption | exact set_same) | fail)
local macro_rules | `(tactic| o_reads) => `(tactic| first | with_reducible apply fget_T | fail)
local macro_rules | `(tactic| o_reads) => `(tactic| first | (((with_reducible apply b_fldU); assumption); decide +kernel) | fail)
local macro_rules | `(tactic| o_reads) => `(tactic| first | (((with_reducible apply ev_fldU); assumption); decide +kernel) | fail)
local macro_rules | `(tactic| o_reads) => `(tactic| first | refine recv_wane (by decide +kernel) ?_ | fail)
local macro_rules | `(tactic| o_reads) => `(tactic| first | with_reducible refine ev_sl ?_ | fail)
local macro_rules | `(tactic| o_reads) => `(tactic| first | (with_reducible refine ev_mt ?_) | fail)
local macro_rules | `(tactic| o_reads) => `(tactic| first | (with_reducible refine ev_mtP ?_) | fail)
local macro_rules | `(tactic| o_reads) => `(tactic| first | with_reducible refine ev_cl gKw' ?_ | fail)
local macro_rules | `(tactic| o_reads) => `(tactic| first | with_reducible refine ev_cl gAll' ?_ | fail)
local macro_rules | `(tactic| o_reads) => `(tactic| first | with_reducible refine ev_clB gAll' ?_ | fail)
local macro_rules | `(tactic| o_reads) => `(tactic| first | with_reducible refine ev_clP gKw' ?_ | fail)
local macro_rules | `(tactic| o_reads) => `(tactic| first | with_reducible refine ev_clP gAll' ?_ | fail)
local macro_rules | `(tactic| o_reads) => `(tactic| first | with_reducible refine ev_tk rfl ?_ | fail)
local macro_rules | `(tactic| o_reads) => `(tactic| first | with_reducible refine ev_isrow rfl ?_ | fail)
local macro_rules | `(tactic| o_reads) => `(tactic| first | with_reducible refine ev_withinI rfl ?_ | fail)
local macro_rules | `(tactic| o_reads) => `(tactic| first | with_reducible refine ev_strengthI rfl ?_ | fail)
local macro_rules | `(tactic| o_reads) => `(tactic| first | with_reducible refine ev_sizeI rfl ?_ | fail)
local macro_rules | `(tactic| o_reads) => `(tactic| first | with_reducible refine ev_momentI rfl ?_ | fail)
local macro_rules | `(tactic| o_reads) => `(tactic| first | with_reducible refine ev_wholeI rfl ?_ | fail)
local macro_rules | `(tactic| o_reads) => `(tactic| first | with_reducible refine rcy (rc_lenStep ?_) | fail)
local macro_rules | `(tactic| o_reads) => `(tactic| first | with_reducible refine rcy (rc_isStep ?_) | fail)
local macro_rules | `(tactic| o_reads) => `(tactic| first | with_reducible refine ry (rd_niRow ?_) | fail)
local macro_rules | `(tactic| o_reads) => `(tactic| first | with_reducible refine ry (rd_inRow (b := false) (by assumption) ?_) | fail)
local macro_rules | `(tactic| o_reads) => `(tactic| first | with_reducible refine ry (rd_inRow (b := true) (by assumption) ?_) | fail)
local macro_rules | `(tactic| o_reads) => `(tactic| first | with_reducible refine ry (rd_wlkN ?_) | fail)
local macro_rules | `(tactic| o_reads) => `(tactic| first | with_reducible refine ev_cntRow rfl ?_ | fail)
local macro_rules | `(tactic| o_reads) => `(tactic| first | ((with_reducible refine rcy (rc_isW ?_ ?_)); assumption) | fail)
local macro_rules | `(tactic| o_reads) => `(tactic| first | ((with_reducible refine rcy (rc_isS ?_ ?_)); first | assumption | (simp [D.tyn]; done) | (apply plainD.ty; assumption)) | fail)
local macro_rules | `(tactic| o_reads) => `(tactic| first | ((with_reducible refine rcy (rc_isT ?_ ?_)); first | assumption | (simp [D.tyn]; done) | (apply plainD.ty; assumption)) | fail)
local macro_rules | `(tactic| o_reads) => `(tactic| first | ((with_reducible refine rcy (rc_isL ?_ ?_)); first | assumption | (simp [D.tyn]; done) | (apply plainD.ty; assumption)) | fail)
local macro_rules | `(tactic| o_reads) => `(tactic| first | ((with_reducible refine rcy (rc_isB ?_ ?_)); first | assumption | (simp [D.tyn]; done) | (apply plainD.ty; assumption)) | fail)
local macro_rules | `(tactic| o_reads) => `(tactic| first | ((with_reducible refine rcy (rc_isI ?_ ?_)); first | assumption | (simp [D.tyn]; done) | (apply plainD.ty; assumption)) | fail)
local macro_rules | `(tactic| o_reads) => `(tactic| first | with_reducible refine rcy (rc_intB ?_) | fail)
local macro_rules | `(tactic| o_reads) => `(tactic| first | with_reducible refine rcy (rc_intI ?_) | fail)
local macro_rules | `(tactic| o_reads) => `(tactic| first | with_reducible refine rcy (rc_min ?_) | fail)
local macro_rules | `(tactic| o_reads) => `(tactic| first | with_reducible refine rcy (rc_max ?_) | fail)
local macro_rules | `(tactic| o_reads) => `(tactic| first | with_reducible refine rcy (rc_abs ?_) | fail)
local macro_rules | `(tactic| o_reads) => `(tactic| first | with_reducible refine rcy (rc_lenRow (by omega) ?_) | fail)
local macro_rules | `(tactic| o_reads) => `(tactic| first | with_reducible refine rcy (rc_lenT ?_) | fail)
local macro_rules | `(tactic| o_reads) => `(tactic| first | with_reducible refine rcy (rc_lenL ?_) | fail)
local macro_rules | `(tactic| o_reads) => `(tactic| first | with_reducible refine rcy (rc_lenD ?_) | fail)
local macro_rules | `(tactic| o_reads) => `(tactic| first | (((with_reducible refine ry (rd_atM ?_ ?_ ?_)); (first | assumption | omega)); assumption) | fail)
local macro_rules | `(tactic| o_reads) => `(tactic| first | with_reducible refine ry (rd_notN ?_) | fail)
local macro_rules | `(tactic| o_reads) => `(tactic| first | with_reducible refine ry (rd_isN ?_) | fail)
local macro_rules | `(tactic| o_reads) => `(tactic| first | with_reducible refine ry (rd_notNn ?_) | fail)
local macro_rules | `(tactic| o_reads) => `(tactic| first | with_reducible refine ry (rd_isNn ?_) | fail)
local macro_rules | `(tactic| o_reads) => `(tactic| first | with_reducible refine ry (rd_notNe ?_) | fail)
local macro_rules | `(tactic| o_reads) => `(tactic| first | with_reducible refine ry (rd_isNe ?_) | fail)
local macro_rules | `(tactic| o_reads) => `(tactic| first | ((with_reducible refine ry (rd_ixL ?_ ?_)); exact rfl) | fail)
local macro_rules | `(tactic| o_reads) => `(tactic| first | ((with_reducible refine ry (rd_ixT ?_ ?_)); exact rfl) | fail)
local macro_rules | `(tactic| o_reads) => `(tactic| first | (((with_reducible refine ry (rd_atD ?_ ?_ ?_)); (first | assumption | omega)); (first | assumption | omega)) | fail)
local macro_rules | `(tactic| o_reads) => `(tactic| first | with_reducible refine ry (rd_p4 ?_) | fail)
local macro_rules | `(tactic| o_reads) => `(tactic| first | with_reducible refine ry (rd_p3 ?_) | fail)
local macro_rules | `(tactic| o_reads) => `(tactic| first | with_reducible refine ry (rd_p2 ?_) | fail)
local macro_rules | `(tactic| o_reads) => `(tactic| first | with_reducible refine ry (rd_p1 ?_) | fail)
local macro_rules | `(tactic| o_reads) => `(tactic| first | with_reducible refine ry (rd_p0 ?_) | fail)
local macro_rules | `(tactic| o_reads) => `(tactic| first | ((with_reducible refine ry (rd_neg1 ?_ ?_)); assumption) | fail)
local macro_rules | `(tactic| o_reads) => `(tactic| first | with_reducible refine ry (rd_s1 ?_) | fail)
local macro_rules | `(tactic| o_reads) => `(tactic| first | with_reducible refine ry (rd_s0 ?_) | fail)
local macro_rules | `(tactic| o_reads) => `(tactic| first | with_reducible refine ry (rd_negT ?_) | fail)
local macro_rules | `(tactic| o_reads) => `(tactic| first | with_reducible refine ry (rd_e3 ?_) | fail)
local macro_rules | `(tactic| o_reads) => `(tactic| first | with_reducible refine ry (rd_e2 ?_) | fail)
local macro_rules | `(tactic| o_reads) => `(tactic| first | with_reducible refine ry (rd_e1 ?_) | fail)
local macro_rules | `(tactic| o_reads) => `(tactic| first | with_reducible refine ry (rd_e0 ?_) | fail)
local macro_rules | `(tactic| o_reads) => `(tactic| first | with_reducible refine ruy (ru_neg ?_) | fail)
local macro_rules | `(tactic| o_reads) => `(tactic| first | (((with_reducible refine ry (rd_pow ?_ ?_)); exact ⟨by decide, by decide, by decide⟩); dsimp only [Int.reduceToNat]) | fail)
local macro_rules | `(tactic| o_reads) => `(tactic| first | with_reducible refine ry (rd_mul ?_ ?_) | fail)
local macro_rules | `(tactic| o_reads) => `(tactic| first | (((with_reducible refine ry (rd_mulL ?_ ?_ ?_)); (first | assumption | exact EfLg.l (by assumption) | exact EfLg.a (by assumption) | exact EfLg.b (by assumption))); (first | assumption | exact EfLg.b (by assumption))) | fail)
local macro_rules | `(tactic| o_reads) => `(tactic| first | ((with_reducible refine ry (rd_mul ?_ ?_)); first | exact .inl ⟨by omega, by omega⟩ | exact .inr ⟨by omega, by omega⟩) | fail)
local macro_rules | `(tactic| o_reads) => `(tactic| first | with_reducible refine ry (rd_div ?_ ?_) | fail)
local macro_rules | `(tactic| o_reads) => `(tactic| first | ((with_reducible refine ry (rd_div ?_ ?_)); exact ⟨by o_shape, by first | decide | (apply lg <;> omega)⟩) | fail)
local macro_rules | `(tactic| o_reads) => `(tactic| first | (((with_reducible refine ry (rd_divL ?_ ?_ ?_)); omega); (first | assumption | exact EfLg.b (by assumption))) | fail)
local macro_rules | `(tactic| o_reads) => `(tactic| first | with_reducible refine ry (rd_mod ?_ ?_) | fail)
local macro_rules | `(tactic| o_reads) => `(tactic| first | ((with_reducible refine ry (rd_mod ?_ ?_)); o_shape) | fail)
local macro_rules | `(tactic| o_reads) => `(tactic| first | with_reducible refine ry (rd_ge ?_) | fail)
local macro_rules | `(tactic| o_reads) => `(tactic| first | with_reducible refine ry (rd_gt ?_) | fail)
local macro_rules | `(tactic| o_reads) => `(tactic| first | with_reducible refine ry (rd_le ?_) | fail)
local macro_rules | `(tactic| o_reads) => `(tactic| first | with_reducible refine ry (rd_lt ?_) | fail)
local macro_rules | `(tactic| o_reads) => `(tactic| first | with_reducible refine ry (rd_neS ?_) | fail)
local macro_rules | `(tactic| o_reads) => `(tactic| first | with_reducible refine ry (rd_neI2 ?_) | fail)
local macro_rules | `(tactic| o_reads) => `(tactic| first | with_reducible refine ry (rd_eqS ?_) | fail)
local macro_rules | `(tactic| o_reads) => `(tactic| first | with_reducible refine ry (rd_asg ?_) | fail)
local macro_rules | `(tactic| o_reads) => `(tactic| first | with_reducible refine ry (rd_dot ?_) | fail)
local macro_rules | `(tactic| o_reads) => `(tactic| first | with_reducible refine ry (rd_eqB ?_) | fail)
local macro_rules | `(tactic| o_reads) => `(tactic| first | with_reducible refine ry (rd_eqI ?_) | fail)
local macro_rules | `(tactic| o_reads) => `(tactic| first | with_reducible refine ry (rd_sub ?_) | fail)
local macro_rules | `(tactic| o_reads) => `(tactic| first | with_reducible refine ry (rd_addI ?_) | fail)
local macro_rules | `(tactic| o_reads) => `(tactic| first | with_reducible refine gcs_nil ?_ | fail)
local macro_rules | `(tactic| o_reads) => `(tactic| first | with_reducible refine gcs_cons ?_ | fail)
local macro_rules | `(tactic| o_reads) => `(tactic| first | with_reducible refine gc_tup rfl ?_ | fail)
local macro_rules | `(tactic| o_reads) => `(tactic| first | ((with_reducible apply gc_name); exact List.mem_of_elem_eq_true rfl) | fail)
local macro_rules | `(tactic| o_reads) => `(tactic| first | with_reducible refine gn_tup rfl ?_ | fail)
local macro_rules | `(tactic| o_reads) => `(tactic| first | with_reducible refine g_tup rfl ?_ | fail)
local macro_rules | `(tactic| o_reads) => `(tactic| first | with_reducible refine gs_nil ?_ | fail)
local macro_rules | `(tactic| o_reads) => `(tactic| first | with_reducible refine gn_name ?_ | fail)
local macro_rules | `(tactic| o_reads) => `(tactic| first | with_reducible refine gs_cons ?_ | fail)
local macro_rules | `(tactic| o_reads) => `(tactic| first | with_reducible refine g_name ?_ | fail)
local macro_rules | `(tactic| o_reads) => `(tactic| first | with_reducible refine b_asgG ?_ | fail)
local macro_rules | `(tactic| o_reads) => `(tactic| first | ((with_reducible apply b_aug); exact rfl) | fail)
local macro_rules | `(tactic| o_reads) => `(tactic| first | with_reducible refine b_par ?_ | fail)
local macro_rules | `(tactic| o_reads) => `(tactic| first | with_reducible refine b_drop ?_ | fail)
local macro_rules | `(tactic| o_reads) => `(tactic| first | with_reducible refine el_one ?_ | fail)
local macro_rules | `(tactic| o_reads) => `(tactic| first | with_reducible refine el_cons ?_ | fail)
local macro_rules | `(tactic| o_reads) => `(tactic| first | with_reducible refine ev_chN ?_ | fail)
local macro_rules | `(tactic| o_reads) => `(tactic| first | with_reducible refine b_cont ?_ | fail)
local macro_rules | `(tactic| o_reads) => `(tactic| first | with_reducible refine b_brk ?_ | fail)
local macro_rules | `(tactic| o_reads) => `(tactic| first | with_reducible refine b_retN ?_ | fail)
local macro_rules | `(tactic| o_reads) => `(tactic| first | with_reducible refine b_asg ?_ | fail)
local macro_rules | `(tactic| o_reads) => `(tactic| first | with_reducible refine b_next ?_ | fail)
local macro_rules | `(tactic| o_reads) => `(tactic| first | with_reducible refine b_ret ?_ | fail)
local macro_rules | `(tactic| o_reads) => `(tactic| first | with_reducible refine b_if ?_ | fail)
local macro_rules | `(tactic| o_reads) => `(tactic| first | with_reducible refine b_ifR ?_ | fail)
local macro_rules | `(tactic| o_reads) => `(tactic| first | with_reducible refine b_seq ?_ | fail)
local macro_rules | `(tactic| o_reads) => `(tactic| first | with_reducible refine ev_chain ?_ | fail)
local macro_rules | `(tactic| o_reads) => `(tactic| first | with_reducible refine ev_if ?_ | fail)
local macro_rules | `(tactic| o_reads) => `(tactic| first | with_reducible refine ev_notV ?_ | fail)
local macro_rules | `(tactic| o_reads) => `(tactic| first | with_reducible refine ev_orV ?_ | fail)
local macro_rules | `(tactic| o_reads) => `(tactic| first | with_reducible refine ev_andV ?_ | fail)
local macro_rules | `(tactic| o_reads) => `(tactic| first | with_reducible refine ev_lst ?_ | fail)
local macro_rules | `(tactic| o_reads) => `(tactic| first | with_reducible refine ev_tup ?_ | fail)
local macro_rules | `(tactic| o_reads) => `(tactic| first | with_reducible refine et_yes ?_ | fail)
local macro_rules | `(tactic| o_reads) => `(tactic| first | with_reducible refine et_or ?_ | fail)
local macro_rules | `(tactic| o_reads) => `(tactic| first | with_reducible refine et_and ?_ | fail)
local macro_rules | `(tactic| o_reads) => `(tactic| first | with_reducible refine et_not ?_ | fail)
local macro_rules | `(tactic| o_reads) => `(tactic| first | with_reducible refine et_b ?_ | fail)
local macro_rules | `(tactic| o_reads) => `(tactic| first | with_reducible refine et_test ?_ | fail)
local macro_rules | `(tactic| o_reads) => `(tactic| first | with_reducible refine ev_cb ?_ | fail)
local macro_rules | `(tactic| o_reads) => `(tactic| first | with_reducible refine ev_un ?_ | fail)
local macro_rules | `(tactic| o_reads) => `(tactic| first | with_reducible refine ev_op ?_ | fail)
local macro_rules | `(tactic| o_reads) => `(tactic| first | with_reducible refine ea_cons ?_ | fail)
local macro_rules | `(tactic| o_reads) => `(tactic| first | with_reducible refine ea_nil ?_ | fail)
local macro_rules | `(tactic| o_reads) => `(tactic| first | with_reducible refine ev_adr ?_ | fail)
local macro_rules | `(tactic| o_reads) => `(tactic| first | with_reducible refine ev_ty ?_ | fail)
local macro_rules | `(tactic| o_reads) => `(tactic| first | with_reducible refine ev_non ?_ | fail)
local macro_rules | `(tactic| o_reads) => `(tactic| first | with_reducible refine ev_bl ?_ | fail)
local macro_rules | `(tactic| o_reads) => `(tactic| first | with_reducible refine ev_str ?_ | fail)
local macro_rules | `(tactic| o_reads) => `(tactic| first | with_reducible refine ev_int ?_ | fail)
local macro_rules | `(tactic| o_reads) => `(tactic| first | ((with_reducible apply ev_var); exact rfl) | fail)
local macro_rules | `(tactic| o_readsAll) => `(tactic| repeat' o_reads)
def lettersL : List Nat := ("abcdefghijklmnopqrstuvwxyz" : Str).cps.toList
def nameB : D → Bool
  | .str x => decide (1 ≤ x.length ∧ x.length ≤ 8) && x.cps.toList.all fun c => decide (c ∈ lettersL)
  | _ => false
def intOf : D → Int
  | .int i => i
  | _ => 0
def risesB (ns : List Int) : Bool := (List.range (ns.length - 1)).all fun k => decide (ns.getD k 0 < ns.getD (k + 1) 0)
def hoursB : D → Bool
  | .tup xs => decide (xs ≠ []) && (xs.all (fun x => withinB x 0 23) && risesB (xs.map intOf))
  | _ => false
structure ThG (d : D) : Prop where
  ty : d.tyn ≠ ""
  tp : ∀ xs, d = .tup xs → Fit d ∧ xs.length ≤ 1000
  st : ∀ x, d = .str x → x.length ≤ 1000 ∧ PyData.strOk x = true
  ft : FitR d
def kindsD (d : D) : List Bool := [wholeB d, nameB d, withinB d 0 9, withinB d 1 (10 ^ 9), withinB d 0 (10 ^ 9), withinB d (-(10 ^ 9)) (10 ^ 9), withinB d 1 (10 ^ 12), withinB d 0 (10 ^ 30), hoursB d, rowB d, stepB d]
def F_is_name (_ : PySem.W.Frag) : FSpec := fun ds w Φ _ => ∃ d, ds = [d] ∧ ThG d ∧ Φ (.bl (nameB d)) w
def F_is_sort (_ : PySem.W.Frag) : FSpec := fun ds w Φ _ => ∃ d, ds = [d] ∧ ThG d ∧ Φ (.bl (withinB d 0 9)) w
def F_is_shift (_ : PySem.W.Frag) : FSpec := fun ds w Φ _ => ∃ d, ds = [d] ∧ ThG d ∧ Φ (.bl (withinB d (-(10 ^ 9)) (10 ^ 9))) w
def F_is_room (_ : PySem.W.Frag) : FSpec := fun ds w Φ _ => ∃ d, ds = [d] ∧ ThG d ∧ Φ (.bl (withinB d 1 (10 ^ 12))) w
def F_is_step (_ : PySem.W.Frag) : FSpec := fun ds w Φ _ => ∃ d, ds = [d] ∧ ThG d ∧ Φ (.bl (stepB d)) w
def F_are_hours (_ : PySem.W.Frag) : FSpec := fun ds w Φ _ => ∃ d, ds = [d] ∧ ThG d ∧ Φ (.bl (hoursB d)) w
def F_l_within (_ : PySem.W.Frag) : FSpec := fun ds w Φ _ => ∃ d a b, ds = [d, .int a, .int b] ∧ d.tyn ≠ "" ∧ Φ (.bl (withinB d a b)) w
def F_l_is_step (_ : PySem.W.Frag) : FSpec := fun ds w Φ _ => ∃ d, ds = [d] ∧ ThG d ∧ Φ (.bl (stepB d)) w
def F_l_is_name (_ : PySem.W.Frag) : FSpec := fun ds w Φ _ => ∃ d, ds = [d] ∧ ThG d ∧ Φ (.bl (nameB d)) w
def F_l_are_hours (_ : PySem.W.Frag) : FSpec := fun ds w Φ _ => ∃ d, ds = [d] ∧ ThG d ∧ Φ (.bl (hoursB d)) w
def F_l_is_row (_ : PySem.W.Frag) : FSpec := fun ds w Φ _ => ∃ d, ds = [d] ∧ ThG d ∧ Φ (.bl (rowB d)) w
def F_l_number (_ : PySem.W.Frag) : FSpec := fun ds w Φ _ => ∃ b : Addr, ds = [.adr b] ∧ w b = some (bagO b) ∧ ∀ i : Int, -(10 ^ 40) ≤ i → i ≤ 10 ^ 40 → Φ (.int i) w
def F_l_some_text (_ : PySem.W.Frag) : FSpec := fun ds w Φ _ => ∃ (b : Addr) (x : Str) (m : Int), ds = [.adr b, .str x, .int m] ∧ (w b = some (bagO b) ∧ (1 ≤ x.length ∧ x.length ≤ 30 ∧ PyData.strOk x = true) ∧ 1 ≤ m ∧ m ≤ 200) ∧ ∀ z : Str, z.length ≤ 1000 → PyData.strOk z = true → Φ (.str z) w
def F_l_some_hours (_ : PySem.W.Frag) : FSpec := fun ds w Φ _ => ∃ b : Addr, ds = [.adr b] ∧ w b = some (bagO b) ∧ ∀ d, ThG d → Φ d w
def F_l_some_step (_ : PySem.W.Frag) : FSpec := fun ds w Φ _ => ∃ b : Addr, ds = [.adr b] ∧ w b = some (bagO b) ∧ ∀ d, ThG d → Φ d w
def F_l_thing (_ : PySem.W.Frag) : FSpec := fun ds w Φ _ => ∃ b : Addr, ds = [.adr b] ∧ w b = some (bagO b) ∧ ∀ d, ThG d → Φ d w
def F_l_asked (_ : PySem.W.Frag) : FSpec := fun ds w Φ _ => ∃ d, ds = [d] ∧ ThG d ∧ Φ (.lst ((kindsD d).map D.bl)) w
def F_l_due (_ : PySem.W.Frag) : FSpec := fun ds w Φ _ => ∃ d, ds = [d] ∧ ThG d ∧ Φ (.lst ((kindsD d).map D.bl)) w
def t_l_number (K : PySem.W.Frag) (E : XK) : TS :=
    (tSeq (tAsg (tOp (rIx K) (tLst (tCons (tC (.int 0)) (tCons (tC (.int 1)) (tCons (tC (.int 9)) (tCons (tC (.int 10)) (tCons (tC (.int 23)) (tCons (tC (.int 24)) (tCons (tC (.int 200)) (tCons (tOp rPowU (tC (.int 10)) (tC (.int 9))) (tCons (tOp rPowU (tC (.int 10)) (tC (.int 12))) (tCons (tOp rPowU (tC (.int 10)) (tC (.int 30))) (tCons (tUn rNegU (tOp rPowU (tC (.int 10)) (tC (.int 9)))) tNil)))))))))))) (tCl 2 0 (liftB K F_l_take) gvAll E (tCons (tVar 0) (tCons (tC (.int 11)) tNil)) tNil)) (gName 1))
    (tSeq (tAsg (tOp (rIx K) (tLst (tCons (tC (.int 0)) (tCons (tC (.int 1)) (tCons (tUn rNegU (tC (.int 1))) (tCons (tC (.int 2)) (tCons (tUn rNegU (tC (.int 2))) (tCons (tCl 2 0 (liftB K F_l_take) gvAll E (tCons (tVar 0) (tCons (tC (.int 20)) tNil)) tNil) (tCons (tOp rPowU (tC (.int 10)) (tC (.int 31))) (tCons (tUn rNegU (tOp rPowU (tC (.int 10)) (tC (.int 12)))) tNil))))))))) (tCl 2 0 (liftB K F_l_take) gvAll E (tCons (tVar 0) (tCons (tC (.int 8)) tNil)) tNil)) (gName 2))
    (tRet (tOp (rAddU K) (tVar 1) (tVar 2)))))

def t_l_some_text (K : PySem.W.Frag) (E : XK) : TS :=
    (tSeq (tAsg (tOp (rIx K) (tLst (tCons (tCl 2 0 (liftB K F_l_take) gvAll E (tCons (tVar 0) (tCons (tC (.int 11)) tNil)) tNil) (tCons (tVar 2) (tCons (tOp (rAddU K) (tVar 2) (tC (.int 1))) (tCons (tOp (rAddU K) (tVar 2) (tC (.int 2))) (tCons (tOp rSubU (tVar 2) (tC (.int 1))) tNil)))))) (tCl 2 0 (liftB K F_l_take) gvAll E (tCons (tVar 0) (tCons (tC (.int 5)) tNil)) tNil)) (gName 3))
    (tSeq (tAsg (tBM K "str" (rJoinU K) (tC (.str "")) (tCons (tLc (iRng1 (tCons (tVar 3) tNil)) (gName 5) tYes (tOp (rIx K) (tVar 1) (tCl 2 0 (liftB K F_l_take) gvAll E (tCons (tVar 0) (tCons (tCB (rLenU K) (tCons (tVar 1) tNil)) tNil)) tNil)) [5]) tNil)) (gName 4))
    (tSeq (tAsg (tC (.str "\n !\"#$&'()*+,-./0123456789:;<=>?@ABCDEFGHIJKLMNOPQRSTUVWXYZ[\\]^_`abcdefghijklmnopqrstuvwxyz{|}~")) (gName 6))
    (tSeq (tIfS (tOr (tTest (tOp (rEqU K) (tVar 4) (tC (.str "")))) (tTest (tOp rGtU (tCl 2 0 (liftB K F_l_take) gvAll E (tCons (tVar 0) (tCons (tC (.int 3)) tNil)) tNil) (tC (.int 0)))))
     (tRet (tVar 4))
     tNext)
    (tSeq (tAsg (tCl 2 0 (liftB K F_l_take) gvAll E (tCons (tVar 0) (tCons (tVar 3) tNil)) tNil) (gName 7))
    (tRet (tOp (rAddU K) (tOp (rAddU K) (tSl (rSlU K) (tVar 4) tNoPart (tPart (tVar 7))) (tOp (rIx K) (tVar 6) (tCl 2 0 (liftB K F_l_take) gvAll E (tCons (tVar 0) (tCons (tCB (rLenU K) (tCons (tVar 6) tNil)) tNil)) tNil))) (tSl (rSlU K) (tVar 4) (tPart (tOp (rAddU K) (tVar 7) (tC (.int 1)))) tNoPart))))))))

def t_l_some_hours (K : PySem.W.Frag) (E : XK) : TS :=
    (tSeq (tAsg (tLc (iRng1 (tCons (tOp (rIx K) (tLst (tCons (tC (.int 1)) (tCons (tC (.int 2)) (tCons (tCl 2 0 (liftB K F_l_take) gvAll E (tCons (tVar 0) (tCons (tC (.int 8)) tNil)) tNil) (tCons (tC (.int 24)) tNil))))) (tCl 2 0 (liftB K F_l_take) gvAll E (tCons (tVar 0) (tCons (tC (.int 4)) tNil)) tNil)) tNil)) (gName 2) tYes (tCl 2 0 (liftB K F_l_take) gvAll E (tCons (tVar 0) (tCons (tC (.int 24)) tNil)) tNil) [2]) (gName 1))
    (tSeq (tIfS (tTest (tOp rGtU (tCl 2 0 (liftB K F_l_take) gvAll E (tCons (tVar 0) (tCons (tC (.int 3)) tNil)) tNil) (tC (.int 0))))
     (tAsg (tLc (iRng1 (tCons (tC (.int 24)) tNil)) (gName 3) (tTest (tOp (rInU K) (tVar 3) (tVar 1))) (tVar 3) [3]) (gName 1))
     tNext)
    (tSeq (tIfS (tAnd (tTest (tOp (rNeU K) (tVar 1) (tLst tNil))) (tTest (tOp (rEqU K) (tCl 2 0 (liftB K F_l_take) gvAll E (tCons (tVar 0) (tCons (tC (.int 3)) tNil)) tNil) (tC (.int 0)))))
     (tAsg (tOp (rIx K) (tLst (tCons (tC (.int 24)) (tCons (tUn rNegU (tC (.int 1))) (tCons (tC (.bl true)) (tCons (tC .non) (tCons (tC (.str "1")) (tCons (tC (.int 23)) (tCons (tC (.int 0)) tNil)))))))) (tCl 2 0 (liftB K F_l_take) gvAll E (tCons (tVar 0) (tCons (tC (.int 7)) tNil)) tNil)) (gSub (tVar 1) (tCl 2 0 (liftB K F_l_take) gvAll E (tCons (tVar 0) (tCons (tCB (rLenU K) (tCons (tVar 1) tNil)) tNil)) tNil) rSetL))
     tNext)
    (tRet (tOp (rIx K) (tLst (tCons (tCB (rTupU K) (tCons (tVar 1) tNil)) (tCons (tCB (rTupU K) (tCons (tVar 1) tNil)) (tCons (tCB (rTupU K) (tCons (tVar 1) tNil)) (tCons (tVar 1) tNil))))) (tCl 2 0 (liftB K F_l_take) gvAll E (tCons (tVar 0) (tCons (tC (.int 4)) tNil)) tNil))))))

def t_l_some_step (K : PySem.W.Frag) (E : XK) : TS :=
    (tSeq (tAsg (tTup (tCons (tOp (rIx K) (tLst (tCons (tOp (rAddU K) (tC (.int 1)) (tCl 2 0 (liftB K F_l_take) gvAll E (tCons (tVar 0) (tCons (tC (.int 9)) tNil)) tNil)) (tCons (tCl 1 0 (lift K (F_l_number K)) gvAll E (tCons (tVar 0) tNil) tNil) tNil))) (tCl 2 0 (liftB K F_l_take) gvAll E (tCons (tVar 0) (tCons (tC (.int 2)) tNil)) tNil)) (tCons (tCl 1 0 (lift K (F_l_number K)) gvAll E (tCons (tVar 0) tNil) tNil) tNil))) (gName 1))
    (tSeq (tAsg (tLst (tCons (tVar 1) (tCons (tVar 1) (tCons (tOp (rAddU K) (tVar 1) (tTup (tCons (tC (.int 0)) tNil))) (tCons (tSl (rSlU K) (tVar 1) tNoPart (tPart (tC (.int 1)))) (tCons (tCB (rListU K) (tCons (tVar 1) tNil)) (tCons (tTup (tCons (tOp (rIx K) (tVar 1) (tC (.int 1))) (tCons (tOp (rIx K) (tVar 1) (tC (.int 0))) tNil))) tNil))))))) (gName 2))
    (tRet (tOp (rIx K) (tOp (rAddU K) (tVar 2) (tLst (tCons (tTup (tCons (tC (.bl true)) (tCons (tC (.int 1)) tNil))) (tCons (tTup (tCons (tC (.int 1)) (tCons (tC .non) tNil))) (tCons (tTup (tCons (tVar 1) tNil)) (tCons (tTup tNil) (tCons (tTup (tCons (tC (.int 1)) (tCons (tC (.bl true)) tNil))) (tCons (tTup (tCons (tC (.int 1)) (tCons (tC (.bl false)) tNil))) tNil)))))))) (tCl 2 0 (liftB K F_l_take) gvAll E (tCons (tVar 0) (tCons (tC (.int 12)) tNil)) tNil)))))

def t_l_thing (K : PySem.W.Frag) (E : XK) : TS :=
    (tSeq (tAsg (tCl 2 0 (liftB K F_l_take) gvAll E (tCons (tVar 0) (tCons (tC (.int 7)) tNil)) tNil) (gName 1))
    (tSeq (tIfS (tTest (tOp rLtU (tVar 1) (tC (.int 2))))
     (tRet (tCl 1 0 (lift K (F_l_number K)) gvAll E (tCons (tVar 0) tNil) tNil))
     tNext)
    (tSeq (tIfS (tTest (tOp (rEqU K) (tVar 1) (tC (.int 2))))
     (tRet (tCl 3 0 (lift K (F_l_some_text K)) gvAll E (tCons (tVar 0) (tCons (tC (.str "abcdefghijklmnopqrstuvwxyz")) (tCons (tC (.int 8)) tNil))) tNil))
     tNext)
    (tSeq (tIfS (tTest (tOp (rEqU K) (tVar 1) (tC (.int 3))))
     (tRet (tCl 3 0 (lift K (F_l_some_text K)) gvAll E (tCons (tVar 0) (tCons (tC (.str ".a.")) (tCons (tC (.int 200)) tNil))) tNil))
     tNext)
    (tSeq (tIfS (tTest (tOp (rEqU K) (tVar 1) (tC (.int 4))))
     (tRet (tCl 1 0 (lift K (F_l_some_hours K)) gvAll E (tCons (tVar 0) tNil) tNil))
     tNext)
    (tSeq (tIfS (tTest (tOp (rEqU K) (tVar 1) (tC (.int 5))))
     (tRet (tCl 1 0 (lift K (F_l_some_step K)) gvAll E (tCons (tVar 0) tNil) tNil))
     tNext)
    (tSeq (tAsg (tLst (tCons (tC .non) (tCons (tC (.bl true)) (tCons (tC (.bl false)) (tCons (tC (.str "")) (tCons (tLst tNil) (tCons (tTup tNil) (tCons tDNewK (tCons (tDisp [((tC (.str "a")), (tC (.int 1)))]) (tCons (tLst (tCons (tC (.int 1)) tNil)) (tCons (tTup (tCons (tC (.str "a")) tNil)) (tCons (tTup (tCons (tC (.int 0)) tNil)) (tCons (tLst (tCons (tTup (tCons (tC (.int 1)) (tCons (tC (.int 1)) tNil))) tNil)) (tCons (tTup (tCons (tTup (tCons (tC (.int 1)) (tCons (tC (.int 1)) tNil))) tNil)) tNil)))))))))))))) (gName 2))
    (tRet (tOp (rIx K) (tVar 2) (tCl 2 0 (liftB K F_l_take) gvAll E (tCons (tVar 0) (tCons (tC (.int 13)) tNil)) tNil))))))))))

def t_is_name (K : PySem.W.Frag) (E : XK) : TS :=
    (tSeq (tIfS (tOr (tNot (tB (tCB (rIsi K) (tCons (tVar 0) (tCons (tC (.ty "str")) tNil))))) (tNot (tTest (tChain rLeU rLeU (tC (.int 1)) (tCB (rLenU K) (tCons (tVar 0) tNil)) (tC (.int (8)))))))
     (tRet (tC (.bl false)))
     tNext)
    (tRet (tCB (rAll K) (tCons (tLc (iU K (tVar 0)) (gName 1) tYes (tOp (rInU K) (tVar 1) (tC (.str "abcdefghijklmnopqrstuvwxyz"))) [1]) tNil))))

def t_is_sort (K : PySem.W.Frag) (E : XK) : TS :=
    (tRet (tCl 3 0 (Wn.lift K pureM (F_is_within K)) gvAll E (tCons (tVar 0) (tCons (tC (.int 0)) (tCons (tC (.int 9)) tNil))) tNil))

def t_is_shift (K : PySem.W.Frag) (E : XK) : TS :=
    (tRet (tCl 3 0 (Wn.lift K pureM (F_is_within K)) gvAll E (tCons (tVar 0) (tCons (tOp rSubU (tC (.int 0)) (tC (.int (10 ^ 9)))) (tCons (tC (.int (10 ^ 9))) tNil))) tNil))

def t_is_room (K : PySem.W.Frag) (E : XK) : TS :=
    (tRet (tCl 3 0 (Wn.lift K pureM (F_is_within K)) gvAll E (tCons (tVar 0) (tCons (tC (.int 1)) (tCons (tC (.int (10 ^ 12))) tNil))) tNil))

def t_are_hours (K : PySem.W.Frag) (E : XK) : TS :=
    (tSeq (tIfS (tOr (tNot (tB (tCB (rIsi K) (tCons (tVar 0) (tCons (tC (.ty "tuple")) tNil))))) (tTest (tOp (rEqU K) (tCB (rLenU K) (tCons (tVar 0) tNil)) (tC (.int 0)))))
     (tRet (tC (.bl false)))
     tNext)
    (tSeq (tIfS (tNot (tB (tCB (rAll K) (tCons (tLc (iU K (tVar 0)) (gName 1) tYes (tCl 3 0 (Wn.lift K pureM (F_is_within K)) gvAll E (tCons (tVar 1) (tCons (tC (.int 0)) (tCons (tOp rSubU (tC (.int (24))) (tC (.int 1))) tNil))) tNil) [1]) tNil))))
     (tRet (tC (.bl false)))
     tNext)
    (tRet (tCB (rAll K) (tCons (tLc (iRng1 (tCons (tOp rSubU (tCB (rLenU K) (tCons (tVar 0) tNil)) (tC (.int 1))) tNil)) (gName 2) tYes (tOp rLtU (tOp (rIx K) (tVar 0) (tVar 2)) (tOp (rIx K) (tVar 0) (tOp (rAddU K) (tVar 2) (tC (.int 1))))) [2]) tNil)))))

def t_l_asked (K : PySem.W.Frag) (E : XK) : TS :=
    (tSeq (tAsg (tLst (tCons (tCl 1 0 (Wn.lift K pureM (F_is_whole K)) gvAll E (tCons (tVar 0) tNil) tNil) (tCons (tCl 1 0 (lift K (F_is_name K)) gvAll E (tCons (tVar 0) tNil) tNil) (tCons (tCl 1 0 (lift K (F_is_sort K)) gvAll E (tCons (tVar 0) tNil) tNil) (tCons (tCl 1 0 (Wn.lift K pureM (F_is_strength K)) gvAll E (tCons (tVar 0) tNil) tNil) tNil))))) (gName 1))
    (tSeq (tAsg (tOp (rAddU K) (tVar 1) (tLst (tCons (tCl 1 0 (Wn.lift K pureM (F_is_size K)) gvAll E (tCons (tVar 0) tNil) tNil) (tCons (tCl 1 0 (lift K (F_is_shift K)) gvAll E (tCons (tVar 0) tNil) tNil) (tCons (tCl 1 0 (lift K (F_is_room K)) gvAll E (tCons (tVar 0) tNil) tNil) (tCons (tCl 1 0 (Wn.lift K pureM (F_is_moment K)) gvAll E (tCons (tVar 0) tNil) tNil) tNil)))))) (gName 1))
    (tRet (tOp (rAddU K) (tVar 1) (tLst (tCons (tCl 1 0 (lift K (F_are_hours K)) gvAll E (tCons (tVar 0) tNil) tNil) (tCons (tCl 1 0 (Wn.lift K pureM (F_is_row K)) gvAll E (tCons (tVar 0) tNil) tNil) (tCons (tCl 1 0 (lift K (F_is_step K)) gvAll E (tCons (tVar 0) tNil) tNil) tNil))))))))

def t_l_is_name (K : PySem.W.Frag) (E : XK) : TS :=
    (tSeq (tIfS (tOr (tNot (tB (tCB (rIsi K) (tCons (tVar 0) (tCons (tC (.ty "str")) tNil))))) (tNot (tTest (tChain rLeU rLeU (tC (.int 1)) (tCB (rLenU K) (tCons (tVar 0) tNil)) (tC (.int 8))))))
     (tRet (tC (.bl false)))
     tNext)
    (tRet (tOp (rEqU K) (tLc (iU K (tVar 0)) (gName 1) (tTest (tOp (rNiU K) (tVar 1) (tC (.str "abcdefghijklmnopqrstuvwxyz")))) (tVar 1) [1]) (tLst tNil))))

def t_l_within (K : PySem.W.Frag) (E : XK) : TS :=
    (tRet (tAndV (tCB (rIsi K) (tCons (tVar 0) (tCons (tC (.ty "int")) tNil))) (tAndV (tNotV (tCB (rIsi K) (tCons (tVar 0) (tCons (tC (.ty "bool")) tNil)))) (tChain rLeU rLeU (tVar 1) (tVar 0) (tVar 2)))))

def t_l_are_hours (K : PySem.W.Frag) (E : XK) : TS :=
    (tSeq (tIfS (tOr (tNot (tB (tCB (rIsi K) (tCons (tVar 0) (tCons (tC (.ty "tuple")) tNil))))) (tOr (tTest (tOp (rEqU K) (tVar 0) (tTup tNil))) (tNot (tB (tCB (rAll K) (tCons (tLc (iU K (tVar 0)) (gName 1) tYes (tCl 3 0 (lift K (F_l_within K)) gvAll E (tCons (tVar 1) (tCons (tC (.int 0)) (tCons (tC (.int 23)) tNil))) tNil) [1]) tNil))))))
     (tRet (tC (.bl false)))
     tNext)
    (tRet (tCB (rAll K) (tCons (tLc (iRng1 (tCons (tOp rSubU (tCB (rLenU K) (tCons (tVar 0) tNil)) (tC (.int 1))) tNil)) (gName 2) tYes (tOp rLtU (tOp (rIx K) (tVar 0) (tVar 2)) (tOp (rIx K) (tVar 0) (tOp (rAddU K) (tVar 2) (tC (.int 1))))) [2]) tNil))))

def t_l_is_row (K : PySem.W.Frag) (E : XK) : TS :=
    (tRet (tAndV (tCB (rIsi K) (tCons (tVar 0) (tCons (tC (.ty "str")) tNil))) (tAndV (tOp rLeU (tCB (rLenU K) (tCons (tVar 0) tNil)) (tC (.int 200))) (tOp (rEqU K) (tLc (iU K (tVar 0)) (gName 1) (tTest (tOp (rNiU K) (tVar 1) (tC (.str ".a")))) (tVar 1) [1]) (tLst tNil)))))

def t_l_is_step (K : PySem.W.Frag) (E : XK) : TS :=
    (tSeq (tIfS (tOr (tNot (tB (tCB (rIsi K) (tCons (tVar 0) (tCons (tC (.ty "tuple")) tNil))))) (tTest (tOp (rNeU K) (tCB (rLenU K) (tCons (tVar 0) tNil)) (tC (.int 2)))))
     (tRet (tC (.bl false)))
     tNext)
    (tRet (tAndV (tCl 3 0 (lift K (F_l_within K)) gvAll E (tCons (tOp (rIx K) (tVar 0) (tC (.int 0))) (tCons (tC (.int 1)) (tCons (tC (.int 9)) tNil))) tNil) (tCl 3 0 (lift K (F_l_within K)) gvAll E (tCons (tOp (rIx K) (tVar 0) (tC (.int 1))) (tCons (tC (.int 0)) (tCons (tOp rPowU (tC (.int 10)) (tC (.int 9))) tNil))) tNil))))

def t_l_due (K : PySem.W.Frag) (E : XK) : TS :=
    (tSeq (tAsg (tAndV (tCB (rIsi K) (tCons (tVar 0) (tCons (tC (.ty "int")) tNil))) (tNotV (tCB (rIsi K) (tCons (tVar 0) (tCons (tC (.ty "bool")) tNil))))) (gName 1))
    (tSeq (tAsg (tLst (tCons (tVar 1) (tCons (tCl 1 0 (lift K (F_l_is_name K)) gvAll E (tCons (tVar 0) tNil) tNil) (tCons (tCl 3 0 (lift K (F_l_within K)) gvAll E (tCons (tVar 0) (tCons (tC (.int 0)) (tCons (tC (.int 9)) tNil))) tNil) (tCons (tCl 3 0 (lift K (F_l_within K)) gvAll E (tCons (tVar 0) (tCons (tC (.int 1)) (tCons (tOp rPowU (tC (.int 10)) (tC (.int 9))) tNil))) tNil) tNil))))) (gName 2))
    (tSeq (tAsg (tOp (rAddU K) (tVar 2) (tLst (tCons (tCl 3 0 (lift K (F_l_within K)) gvAll E (tCons (tVar 0) (tCons (tC (.int 0)) (tCons (tOp rPowU (tC (.int 10)) (tC (.int 9))) tNil))) tNil) (tCons (tCl 3 0 (lift K (F_l_within K)) gvAll E (tCons (tVar 0) (tCons (tUn rNegU (tOp rPowU (tC (.int 10)) (tC (.int 9)))) (tCons (tOp rPowU (tC (.int 10)) (tC (.int 9))) tNil))) tNil) tNil)))) (gName 2))
    (tSeq (tAsg (tOp (rAddU K) (tVar 2) (tLst (tCons (tCl 3 0 (lift K (F_l_within K)) gvAll E (tCons (tVar 0) (tCons (tC (.int 1)) (tCons (tOp rPowU (tC (.int 10)) (tC (.int 12))) tNil))) tNil) (tCons (tCl 3 0 (lift K (F_l_within K)) gvAll E (tCons (tVar 0) (tCons (tC (.int 0)) (tCons (tOp rPowU (tC (.int 10)) (tC (.int 30))) tNil))) tNil) tNil)))) (gName 2))
    (tRet (tOp (rAddU K) (tVar 2) (tLst (tCons (tCl 1 0 (lift K (F_l_are_hours K)) gvAll E (tCons (tVar 0) tNil) tNil) (tCons (tCl 1 0 (lift K (F_l_is_row K)) gvAll E (tCons (tVar 0) tNil) tNil) (tCons (tCl 1 0 (lift K (F_l_is_step K)) gvAll E (tCons (tVar 0) tNil) tNil) tNil))))))))))

def t_law (K : PySem.W.Frag) (E : XK) : TS :=
    (tSeq (tAsg (tCl 1 0 (spBag K) gvAll E (tCons (tVar 0) tNil) tNil) (gName 1))
    (tSeq (tFor (iRng1 (tCons (tC (.int 24)) tNil)) (gName 2)
     (tSeq (tAsg (tCl 1 0 (lift K (F_l_thing K)) gvAll E (tCons (tVar 1) tNil) tNil) (gName 3))
      (tSeq (tAsg (tCB (rReprU K) (tCons (tVar 3) tNil)) (gName 4))
      (tIfS (tOr (tTest (tOp (rNeU K) (tCB (rReprU K) (tCons (tCl 1 0 (lift K (F_l_asked K)) gvAll E (tCons (tVar 3) tNil) tNil) tNil)) (tCB (rReprU K) (tCons (tCl 1 0 (lift K (F_l_due K)) gvAll E (tCons (tVar 3) tNil) tNil) tNil)))) (tTest (tOp (rNeU K) (tCB (rReprU K) (tCons (tVar 3) tNil)) (tVar 4))))
       (tRet (tC (.bl false)))
       tNext))))
    (tRet (tC (.bl true)))))
local macro_rules | `(tactic| o_reads) => `(tactic| first | with_reducible refine ev_rowD rfl ?_ | fail)
local macro_rules | `(tactic| o_reads) => `(tactic| first | with_reducible refine ev_momentD rfl ?_ | fail)
local macro_rules | `(tactic| o_reads) => `(tactic| first | with_reducible refine ev_strengthD rfl ?_ | fail)
local macro_rules | `(tactic| o_reads) => `(tactic| first | with_reducible refine ev_sizeD rfl ?_ | fail)
local macro_rules | `(tactic| o_reads) => `(tactic| first | with_reducible refine ev_wholeD rfl ?_ | fail)
local macro_rules | `(tactic| o_reads) => `(tactic| first | with_reducible refine ev_withinD rfl ?_ | fail)
theorem all_map {α : Type} (f : α → Bool) (l : List α) : (l.map f).all id = l.all f := by rw [List.all_map]; rfl
theorem ll_str (y : Str) : y.cps.toList.length = y.length := (TL.len_tl y).symm
/-- which signs of a text are among those of another -/
theorem ev_allS {C : Ctx} {K : PySem.W.Frag} {δ : List Sl} {w : World} {Φ : D → World → Prop} {y z : Str} {s0 : Sl} (hK : K = C.K) (hδ : δ = [.d (.str y), s0]) (hl : y.length ≤ 1000) (q : Φ (.lst ((y.cps.toList.map fun c => decide (c ∈ z.cps.toList)).map D.bl)) w) :
    EvD C (tLc (iU K (tVar 0)) (gName 1) tYes (tOp (rInU K) (tVar 1) (tC (.str z))) [1]) δ w Φ := by
  subst hK hδ
  have hl2 := ll_str y
  refine ev_lc (fun k acc w2 => w2 = w ∧ acc = ((y.cps.toList.take k).map (fun c => decide (c ∈ z.cps.toList))).map D.bl) (ei_uS (ei_S (ev_var rfl ⟨_, rfl, ⟨rfl, rfl⟩, by omega, fun _ _ _ _ => trivial, ?_, ?_⟩)))
  · rintro k x acc w2 hk ⟨c, hc, rfl⟩ ⟨rfl, rfl⟩
    refine gc_name (List.mem_singleton.mpr rfl) (et_yes ⟨fun _ => ?_, fun z => (by cases z)⟩)
    refine ev_op (ev_var rfl (ev_str (ry (rd_inS ⟨rfl, ?_⟩))))
    rw [List.take_add_one, hc, List.map_append, List.map_append]
    rfl
  · rintro acc w2 ⟨rfl, rfl⟩
    rw [List.take_length]
    exact q
/-- the signs of a text that are not among those of another -/
theorem ev_niS {C : Ctx} {K : PySem.W.Frag} {δ : List Sl} {w : World} {Φ : D → World → Prop} {y z : Str} {s0 : Sl} (hK : K = C.K) (hδ : δ = [.d (.str y), s0]) (hl : y.length ≤ 1000) (q : Φ (.lst ((y.cps.toList.filter fun c => !decide (c ∈ z.cps.toList)).map fun c => D.str ⟨#[c]⟩)) w) :
    EvD C (tLc (iU K (tVar 0)) (gName 1) (tTest (tOp (rNiU K) (tVar 1) (tC (.str z)))) (tVar 1) [1]) δ w Φ := by
  subst hK hδ
  have hl2 := ll_str y
  refine ev_lc (fun k acc w2 => w2 = w ∧ acc = ((y.cps.toList.take k).filter (fun c => !decide (c ∈ z.cps.toList))).map (fun c => D.str ⟨#[c]⟩)) (ei_uS (ei_S (ev_var rfl ⟨_, rfl, ⟨rfl, rfl⟩, by omega, fun _ _ _ _ => trivial, ?_, ?_⟩)))
  · rintro k x acc w2 hk ⟨c, hc, rfl⟩ ⟨rfl, rfl⟩
    refine gc_name (List.mem_singleton.mpr rfl) (et_test (ev_op (ev_var rfl (ev_str (ry (rd_niS ?_))))))
    refine ⟨_, rfl, fun hb => ev_var rfl ⟨rfl, ?_⟩, fun hb => ⟨rfl, ?_⟩⟩
    · rw [List.take_add_one, hc, List.filter_append, List.map_append]
      simp only [Option.toList_some, List.filter_cons, List.filter_nil, hb, if_true, List.map_cons, List.map_nil]
    · rw [List.take_add_one, hc, List.filter_append, List.map_append]
      simp only [Option.toList_some, List.filter_cons, List.filter_nil, hb, Bool.false_eq_true, if_false, List.map_nil, List.append_nil]
  · rintro acc w2 ⟨rfl, rfl⟩
    rw [List.take_length]
    exact q
/-- .. are none just where all are among them -/
theorem ry_none {K : PySem.W.Frag} {w : World} {Φ : D → World → Prop} {y : Str} {L : List Nat} (hl : y.length ≤ 1000) (ok : PyData.strOk y = true) (q : Φ (.bl (y.cps.toList.all fun c => decide (c ∈ L))) w) :
    RY K (rEqU K) (.lst ((y.cps.toList.filter fun c => !decide (c ∈ L)).map fun c => D.str ⟨#[c]⟩)) (.lst []) w Φ := by
  have hl2 := ll_str y
  have key : ∀ l : List Nat, (∀ c ∈ l, c < 1114112) → l.length ≤ 1000 → Φ (.bl (decide (l = []))) w → RY K (rEqU K) (.lst (l.map fun c => D.str ⟨#[c]⟩)) (.lst []) w Φ := fun l hl2 hl3 hq => by
    refine ry (rd_eqD ⟨?_, ?_⟩ ⟨by decide, by decide⟩ ?_)
    · show D.oks 29 (l.map fun c => D.str ⟨#[c]⟩) = true
      exact oks_iff fun z hz => by
        obtain ⟨c, hc, rfl⟩ := List.mem_map.mp hz
        have : PyData.strOk ⟨#[c]⟩ = true := by simp [PyData.strOk]; exact hl2 c hc
        simp [D.ok, this]
    · have := wts_le (k := 1) (xs := l.map fun c => D.str ⟨#[c]⟩) fun z hz => by
        obtain ⟨c, _, rfl⟩ := List.mem_map.mp hz
        exact Nat.le_refl 1
      rw [List.length_map] at this
      show D.wts (l.map fun c => D.str ⟨#[c]⟩) ≤ 8000
      omega
    · cases l with
      | nil => exact hq
      | cons a r => exact hq
  have cps : ∀ c ∈ y.cps.toList, c < 1114112 := fun c hc => by
    unfold PyData.strOk at ok
    rw [← Array.all_toList, List.all_eq_true] at ok
    exact of_decide_eq_true (ok c hc)
  refine key (y.cps.toList.filter fun c => !decide (c ∈ L)) (fun c hc => cps c (List.mem_filter.mp hc).1) (Nat.le_trans (List.length_filter_le _ _) (by omega)) ?_
  have e2 : decide ((y.cps.toList.filter fun c => !decide (c ∈ L)) = []) = y.cps.toList.all fun c => decide (c ∈ L) := by
    rw [Bool.eq_iff_iff, decide_eq_true_iff, List.filter_eq_nil_iff, List.all_eq_true]
    exact ⟨fun h c hc => by
      have := h c hc
      cases z : decide (c ∈ L) with
      | true => rfl
      | false => rw [z] at this; exact absurd rfl this, fun h c hc => by rw [h c hc]; decide⟩
  rw [e2]
  exact q
theorem pure_is_name {K : PySem.W.Frag} {vs : List V} {H : Hp} {Q : VK} {E : XK} (h : lift K (F_is_name K) vs H Q E) : t_is_name K E { nx := fun _ H' => Q .non H', rt := Q } (L2.start ["thing", "sign"] vs) H :=
  lift_of (t := t_is_name K) (fun C ds w Φ hK hE ⟨d, e, g, q⟩ => by
    subst hK hE e
    have d1 := g.ty
    unfold t_is_name
    cases d with
    | str y =>
      obtain ⟨d2, d3⟩ := g.st y rfl
      have fin : nameB (.str y) = false → Φ (.bl false) w := fun z => by rw [z] at q; exact q
      refine b_seq (b_if ?_)
      o_readsAll
      refine rcy (rc_lenS (by rw [sizeLine_eq]; omega) ?_)
      o_readsAll
      · exact fin (by unfold nameB; simp; intro _; omega)
      · refine ev_allS rfl rfl d2 (ea_nil (rcy (rc_all rfl ?_)))
        rw [all_map]
        have e : nameB (.str y) = y.cps.toList.all fun c => decide (c ∈ lettersL) := by
          unfold nameB
          show (decide (1 ≤ y.length ∧ y.length ≤ 8) && _) = _
          rw [decide_eq_true (by omega), Bool.true_and]
        rw [e] at q
        exact q
      · exact fin (by unfold nameB; simp; intro _; omega)
    | _ =>
      first
        | exact absurd rfl d1
        | (refine b_seq (b_if ?_)
           o_readsAll
           exact q)) h
theorem pure_l_is_name {K : PySem.W.Frag} {vs : List V} {H : Hp} {Q : VK} {E : XK} (h : lift K (F_l_is_name K) vs H Q E) : t_l_is_name K E { nx := fun _ H' => Q .non H', rt := Q } (L2.start ["_law_thing_here", "_law_sign"] vs) H :=
  lift_of (t := t_l_is_name K) (fun C ds w Φ hK hE ⟨d, e, g, q⟩ => by
    subst hK hE e
    have d1 := g.ty
    unfold t_l_is_name
    cases d with
    | str y =>
      obtain ⟨d2, d3⟩ := g.st y rfl
      have fin : nameB (.str y) = false → Φ (.bl false) w := fun z => by rw [z] at q; exact q
      refine b_seq (b_if ?_)
      o_readsAll
      refine rcy (rc_lenS (by rw [sizeLine_eq]; omega) ?_)
      o_readsAll
      · exact fin (by unfold nameB; simp; intro _; omega)
      · refine ev_niS rfl rfl d2 (ev_lst (ea_nil ⟨Nat.le_of_ble_eq_true rfl, ry_none d2 d3 ?_⟩))
        have e : nameB (.str y) = y.cps.toList.all fun c => decide (c ∈ lettersL) := by
          unfold nameB
          show (decide (1 ≤ y.length ∧ y.length ≤ 8) && _) = _
          rw [decide_eq_true (by omega), Bool.true_and]
        rw [e] at q
        exact q
      · exact fin (by unfold nameB; simp; intro _; omega)
    | _ =>
      first
        | exact absurd rfl d1
        | (refine b_seq (b_if ?_)
           o_readsAll
           exact q)) h
theorem pure_l_is_row {K : PySem.W.Frag} {vs : List V} {H : Hp} {Q : VK} {E : XK} (h : lift K (F_l_is_row K) vs H Q E) : t_l_is_row K E { nx := fun _ H' => Q .non H', rt := Q } (L2.start ["_law_thing_here", "_law_sign"] vs) H :=
  lift_of (t := t_l_is_row K) (fun C ds w Φ hK hE ⟨d, e, g, q⟩ => by
    subst hK hE e
    have d1 := g.ty
    unfold t_l_is_row
    cases d with
    | str y =>
      obtain ⟨d2, d3⟩ := g.st y rfl
      o_readsAll
      refine rcy (rc_lenS (by rw [sizeLine_eq]; omega) ?_)
      o_readsAll
      · refine ev_niS rfl rfl d2 (ev_lst (ea_nil ⟨Nat.le_of_ble_eq_true rfl, ry_none d2 d3 ?_⟩))
        have e : rowB (.str y) = y.cps.toList.all fun c => decide (c ∈ (".a" : Str).cps.toList) := by
          unfold rowB
          rw [show (".a" : Str).cps.toList = [46, 97] by decide +kernel]
          show (decide (y.length ≤ 200) && _) = _
          rw [decide_eq_true (by omega), Bool.true_and]
        rw [e] at q
        exact q
      · have e : rowB (.str y) = false := by
          unfold rowB
          show (decide (y.length ≤ 200) && _) = _
          rw [decide_eq_false (by omega), Bool.false_and]
        rw [e] at q
        exact q
    | _ =>
      first
        | exact absurd rfl d1
        | (o_readsAll
           exact q)) h
theorem pure_l_within {K : PySem.W.Frag} {vs : List V} {H : Hp} {Q : VK} {E : XK} (h : lift K (F_l_within K) vs H Q E) : t_l_within K E { nx := fun _ H' => Q .non H', rt := Q } (L2.start ["_law_thing_here", "_law_low", "_law_high"] vs) H :=
  lift_of (t := t_l_within K) (fun C ds w Φ hK hE ⟨d, a, b, e, d1, q⟩ => by
    subst hK hE e
    unfold t_l_within
    cases d with
    | int i =>
      o_readsAll
      · rename_i z
        have e : withinB (.int i) a b = decide (i ≤ b) := by
          by_cases y : i ≤ b <;> simp [withinB, y] <;> omega
        rw [e] at q
        exact q
      · rename_i z
        have e : withinB (.int i) a b = false := by simp [withinB]; omega
        rw [e] at q
        exact q
    | _ =>
      first
        | exact absurd rfl d1
        | (o_readsAll
           all_goals exact q)) h
theorem pure_is_sort {K : PySem.W.Frag} {vs : List V} {H : Hp} {Q : VK} {E : XK} (h : lift K (F_is_sort K) vs H Q E) : t_is_sort K E { nx := fun _ H' => Q .non H', rt := Q } (L2.start ["thing"] vs) H :=
  lift_of (t := t_is_sort K) (fun C ds w Φ hK hE ⟨d, e, g, q⟩ => by
    subst hK hE e
    unfold t_is_sort
    o_readsAll
    exact ⟨g.ty, q⟩) h
theorem pure_is_shift {K : PySem.W.Frag} {vs : List V} {H : Hp} {Q : VK} {E : XK} (h : lift K (F_is_shift K) vs H Q E) : t_is_shift K E { nx := fun _ H' => Q .non H', rt := Q } (L2.start ["thing"] vs) H :=
  lift_of (t := t_is_shift K) (fun C ds w Φ hK hE ⟨d, e, g, q⟩ => by
    subst hK hE e
    unfold t_is_shift
    o_readsAll
    exact ⟨g.ty, q⟩) h
theorem pure_is_room {K : PySem.W.Frag} {vs : List V} {H : Hp} {Q : VK} {E : XK} (h : lift K (F_is_room K) vs H Q E) : t_is_room K E { nx := fun _ H' => Q .non H', rt := Q } (L2.start ["thing"] vs) H :=
  lift_of (t := t_is_room K) (fun C ds w Φ hK hE ⟨d, e, g, q⟩ => by
    subst hK hE e
    unfold t_is_room
    o_readsAll
    exact ⟨g.ty, q⟩) h
theorem ThG.at {xs : List D} (g : ThG (.tup xs)) {x : D} (hx : x ∈ xs) : x.tyn ≠ "" := ((show plainD (.tup xs) from ⟨30, (g.tp xs rfl).1.ok⟩).tup hx).ty
theorem step_no {xs : List D} (h : xs.length ≠ 2) : stepB (.tup xs) = false := by
  match xs, h with
  | [], _ => rfl
  | [_], _ => rfl
  | [_, _], z => exact absurd rfl z
  | _ :: _ :: _ :: _, _ => rfl
theorem two_of {xs : List D} (h : xs.length = 2) : ∃ x y, xs = [x, y] := by
  match xs, h with
  | [x, y], _ => exact ⟨x, y, rfl⟩
theorem pure_is_step {K : PySem.W.Frag} {vs : List V} {H : Hp} {Q : VK} {E : XK} (h : lift K (F_is_step K) vs H Q E) : t_is_step K E { nx := fun _ H' => Q .non H', rt := Q } (L2.start ["thing"] vs) H :=
  lift_of (t := t_is_step K) (fun C ds w Φ hK hE ⟨d, e, g, q⟩ => by
    subst hK hE e
    have d1 := g.ty
    unfold t_is_step
    cases d with
    | tup xs =>
      by_cases h2 : xs.length = 2
      · obtain ⟨x, y, rfl⟩ := two_of h2
        have hx := g.at (x := x) (by simp)
        have hy := g.at (x := y) (by simp)
        have x0 : ∀ {w : World} {Φ : D → World → Prop}, Φ x w → RY C.K (rIx C.K) (.tup [x, y]) (.int 0) w Φ := fun h => ry (rd_ixT (atI_nat (j := 0) rfl) h)
        have x1 : ∀ {w : World} {Φ : D → World → Prop}, Φ y w → RY C.K (rIx C.K) (.tup [x, y]) (.int 1) w Φ := fun h => ry (rd_ixT (atI_nat (j := 1) rfl) h)
        o_readsAll
        · refine x0 ?_
          o_readsAll
          · rename_i z
            refine x1 ?_
            refine ⟨hy, ?_⟩
            have e : stepB (.tup [x, y]) = withinB y 0 (10 ^ 9) := by
              show (withinB x 1 9 && _) = _
              rw [z, Bool.true_and]
            rw [e] at q
            exact q
          · rename_i z
            have e : stepB (.tup [x, y]) = false := by
              show (withinB x 1 9 && _) = _
              rw [z, Bool.false_and]
            rw [e] at q
            exact q
        · rename_i z
          cases z
      · rw [step_no h2] at q
        o_readsAll
        all_goals exact q
    | _ =>
      first
        | exact absurd rfl d1
        | (o_readsAll
           exact q)) h
theorem pure_l_is_step {K : PySem.W.Frag} {vs : List V} {H : Hp} {Q : VK} {E : XK} (h : lift K (F_l_is_step K) vs H Q E) : t_l_is_step K E { nx := fun _ H' => Q .non H', rt := Q } (L2.start ["_law_thing_here"] vs) H :=
  lift_of (t := t_l_is_step K) (fun C ds w Φ hK hE ⟨d, e, g, q⟩ => by
    subst hK hE e
    have d1 := g.ty
    unfold t_l_is_step
    cases d with
    | tup xs =>
      by_cases h2 : xs.length = 2
      · obtain ⟨x, y, rfl⟩ := two_of h2
        have hx := g.at (x := x) (by simp)
        have hy := g.at (x := y) (by simp)
        have x0 : ∀ {w : World} {Φ : D → World → Prop}, Φ x w → RY C.K (rIx C.K) (.tup [x, y]) (.int 0) w Φ := fun h => ry (rd_ixT (atI_nat (j := 0) rfl) h)
        have x1 : ∀ {w : World} {Φ : D → World → Prop}, Φ y w → RY C.K (rIx C.K) (.tup [x, y]) (.int 1) w Φ := fun h => ry (rd_ixT (atI_nat (j := 1) rfl) h)
        refine b_seq (b_if ?_)
        o_readsAll
        · refine x0 ?_
          o_readsAll
          · rename_i z
            refine x1 ?_
            o_readsAll
            have e : stepB (.tup [x, y]) = withinB y 0 (10 ^ 9) := by
              show (withinB x 1 9 && _) = _
              rw [z, Bool.true_and]
            rw [e] at q
            exact q
          · rename_i z
            have e : stepB (.tup [x, y]) = false := by
              show (withinB x 1 9 && _) = _
              rw [z, Bool.false_and]
            rw [e] at q
            exact q
        · rename_i z
          cases z
      · rw [step_no h2] at q
        refine b_seq (b_if ?_)
        o_readsAll
        all_goals exact q
    | _ =>
      first
        | exact absurd rfl d1
        | (refine b_seq (b_if ?_)
           o_readsAll
           exact q)) h
theorem ev_allT {C : Ctx} {K : PySem.W.Frag} {δ : List Sl} {w : World} {te : TE} {Φ : D → World → Prop} {xs : List D} {s1 s2 : Sl} (f : D → Bool) (hK : K = C.K) (hδ : δ = [.d (.tup xs), s1, s2]) (hl : xs.length ≤ 1000) (hf : ∀ x ∈ xs, ∀ Ψ : D → World → Prop, Ψ (.bl (f x)) w → EvD C te [.d (.tup xs), .d x, s2] w Ψ) (q : Φ (.lst ((xs.map f).map D.bl)) w) :
    EvD C (tLc (iU K (tVar 0)) (gName 1) tYes te [1]) δ w Φ := by
  subst hδ
  refine ev_lc (fun k acc w2 => w2 = w ∧ acc = ((xs.take k).map f).map D.bl) (ei_uT (ei_T hK (ev_var rfl ⟨_, rfl, ⟨rfl, rfl⟩, by omega, fun _ _ _ _ => trivial, ?_, ?_⟩)))
  · rintro k x acc w2 hk hx ⟨rfl, rfl⟩
    refine gc_name (List.mem_singleton.mpr rfl) (et_yes ⟨fun _ => ?_, fun z => (by cases z)⟩)
    refine hf x (List.mem_of_getElem? hx) _ ⟨rfl, ?_⟩
    rw [List.take_add_one, hx, List.map_append, List.map_append]
    rfl
  · rintro acc w2 ⟨rfl, rfl⟩
    rw [List.take_length]
    exact q
theorem ev_rises {C : Ctx} {K : PySem.W.Frag} {δ : List Sl} {w : World} {Φ : D → World → Prop} {ns : List Int} {x1 x2 : Sl} (hK : K = C.K) (hδ : δ = [.d (.tup (ns.map D.int)), x1, x2]) (h0 : ns ≠ []) (hl : ns.length ≤ 1000) (q : Φ (.lst (((List.range (ns.length - 1)).map fun k => decide (ns.getD k 0 < ns.getD (k + 1) 0)).map D.bl)) w) :
    EvD C (tLc (iRng1 (tCons (tOp rSubU (tCB (rLenU K) (tCons (tVar 0) tNil)) (tC (.int 1))) tNil)) (gName 2) tYes (tOp rLtU (tOp (rIx K) (tVar 0) (tVar 2)) (tOp (rIx K) (tVar 0) (tOp (rAddU K) (tVar 2) (tC (.int 1))))) [2]) δ w Φ := by
  subst hK hδ
  have hp : 1 ≤ ns.length := List.length_pos_iff.mpr h0
  have hn : (((ns.length : Nat) : Int) - 1).toNat = ns.length - 1 := by omega
  refine ev_lc (fun k acc w3 => w3 = w ∧ acc = ((List.range k).map fun k => decide (ns.getD k 0 < ns.getD (k + 1) 0)).map D.bl) (ei_R (ea_cons (ev_op (ev_cb (ea_cons (ev_var rfl (ea_nil (rcy (rc_lenT (ev_int (ry (rd_sub (ea_nil ⟨_, rfl, ⟨by rw [List.length_map]; omega, by rw [List.length_map]; omega⟩, ⟨rfl, rfl⟩, by rw [List.length_map]; omega, fun _ _ _ _ => trivial, ?_, ?_⟩)))))))))))))
  · rintro k x acc w3 hk rfl ⟨rfl, rfl⟩
    rw [List.length_map] at hk
    have g1 : k < ns.length := by omega
    have g2 : k + 1 < ns.length := by omega
    refine gc_name (List.mem_singleton.mpr rfl) (et_yes ⟨fun _ => ?_, fun z => (by cases z)⟩)
    refine ev_op (ev_op (ev_var rfl (ev_var rfl (ry (rd_ixT (d := .int ns[k]) (atI_nat (by rw [List.getElem?_map, List.getElem?_eq_getElem g1]; rfl)) ?_)))))
    refine ev_op (ev_var rfl (ev_op (ev_var rfl (ev_int (ry (rd_addI (ry (rd_ixT (d := .int ns[k + 1]) (atI_nat (j := k + 1) (by rw [List.getElem?_map, List.getElem?_eq_getElem g2]; rfl)) ?_))))))))
    refine ry (rd_lt ⟨rfl, ?_⟩)
    rw [List.range_succ, List.map_append, List.map_append]
    congr 1
    show _ = [D.bl (decide (ns.getD k 0 < ns.getD (k + 1) 0))]
    rw [List.getD_eq_getElem?_getD, List.getD_eq_getElem?_getD, List.getElem?_eq_getElem g1, List.getElem?_eq_getElem g2]
    rfl
  · rintro acc w3 ⟨rfl, rfl⟩
    rw [List.length_map, hn]
    exact q
theorem ints_back {xs : List D} (h : xs.all (fun x => withinB x 0 23) = true) : xs = (xs.map intOf).map D.int := by
  rw [List.map_map]
  conv => lhs; rw [← List.map_id xs]
  refine List.map_congr_left fun x hx => ?_
  have := List.all_eq_true.mp h x hx
  cases x with
  | int i => rfl
  | _ => cases this
theorem hours_t {xs : List D} (h0 : xs ≠ []) (h : xs.all (fun x => withinB x 0 23) = true) : hoursB (.tup xs) = risesB (xs.map intOf) := by
  unfold hoursB
  show (decide (xs ≠ []) && (xs.all (fun x => withinB x 0 23) && _)) = _
  rw [h, decide_eq_true h0]
  rfl
theorem hours_f {xs : List D} (h : xs.all (fun x => withinB x 0 23) = false) : hoursB (.tup xs) = false := by
  unfold hoursB
  show (decide (xs ≠ []) && (xs.all (fun x => withinB x 0 23) && _)) = _
  rw [h, Bool.false_and, Bool.and_false]
theorem hours_0 : hoursB (.tup []) = false := rfl
theorem ev_hours {C : Ctx} {K : PySem.W.Frag} {w : World} {Φ : D → World → Prop} {xs : List D} {x1 x2 : Sl} (hK : K = C.K) (h0 : xs ≠ []) (hl : xs.length ≤ 1000) (h : xs.all (fun x => withinB x 0 23) = true) (q : Φ (.bl (hoursB (.tup xs))) w) :
    EvD C (tLc (iRng1 (tCons (tOp rSubU (tCB (rLenU K) (tCons (tVar 0) tNil)) (tC (.int 1))) tNil)) (gName 2) tYes (tOp rLtU (tOp (rIx K) (tVar 0) (tVar 2)) (tOp (rIx K) (tVar 0) (tOp (rAddU K) (tVar 2) (tC (.int 1))))) [2]) [.d (.tup xs), x1, x2] w (fun d w1 => EvA C tNil [.d (.tup xs), x1, x2] w1 fun ds w2 => RCY C.K (rAll C.K) (d :: ds) w2 Φ) := by
  subst hK
  rw [hours_t h0 h] at q
  have e := ints_back h
  refine ev_rises (ns := xs.map intOf) (x1 := x1) (x2 := x2) rfl (by rw [← e]) (fun z => h0 (List.map_eq_nil_iff.mp z)) (by rw [List.length_map]; exact hl) (ea_nil (rcy (rc_all rfl ?_)))
  rw [all_map]
  exact q
section
local macro_rules | `(tactic| o_reads) => `(tactic| with_reducible refine b_seq (b_if ?_))
theorem pure_are_hours {K : PySem.W.Frag} {vs : List V} {H : Hp} {Q : VK} {E : XK} (h : lift K (F_are_hours K) vs H Q E) : t_are_hours K E { nx := fun _ H' => Q .non H', rt := Q } (L2.start ["thing", "hour", "k"] vs) H :=
  lift_of (t := t_are_hours K) (fun C ds w Φ hK hE ⟨d, e, g, q⟩ => by
    subst hK hE e
    have d1 := g.ty
    unfold t_are_hours
    cases d with
    | tup xs =>
      obtain ⟨ft, hl⟩ := g.tp xs rfl
      refine b_seq (b_if ?_)
      o_readsAll
      · rename_i z
        have : xs = [] := List.length_eq_zero_iff.mp (by omega)
        subst this
        exact q
      · rename_i z
        have h0 : xs ≠ [] := fun e => z (by rw [e]; rfl)
        refine ev_allT (fun x => withinB x 0 23) rfl rfl hl (fun x hx Ψ hq => ?_) (ea_nil (rcy (rc_all rfl ?_)))
        · o_readsAll
          exact ⟨g.at hx, hq⟩
        · rw [all_map]
          cases ha : xs.all fun x => withinB x 0 23 with
          | true =>
            o_readsAll
            exact ev_hours rfl h0 hl ha q
          | false =>
            rw [hours_f ha] at q
            o_readsAll
            exact q
    | _ =>
      first
        | exact absurd rfl d1
        | (refine b_seq (b_if ?_)
           o_readsAll
           exact q)) h
theorem pure_l_are_hours {K : PySem.W.Frag} {vs : List V} {H : Hp} {Q : VK} {E : XK} (h : lift K (F_l_are_hours K) vs H Q E) : t_l_are_hours K E { nx := fun _ H' => Q .non H', rt := Q } (L2.start ["_law_thing_here", "_law_one", "_law_k"] vs) H :=
  lift_of (t := t_l_are_hours K) (fun C ds w Φ hK hE ⟨d, e, g, q⟩ => by
    subst hK hE e
    have d1 := g.ty
    unfold t_l_are_hours
    cases d with
    | tup xs =>
      obtain ⟨ft, hl⟩ := g.tp xs rfl
      refine b_seq (b_if ?_)
      o_readsAll
      refine ry (rd_eqD ft ⟨by decide, by decide⟩ ?_)
      cases xs with
      | nil =>
        refine ⟨true, rfl, fun z => (by cases z), fun _ => ?_⟩
        o_readsAll
        exact q
      | cons x0 xr =>
        refine ⟨false, rfl, fun _ => ?_, fun z => (by cases z)⟩
        o_readsAll
        refine ev_allT (fun x => withinB x 0 23) rfl rfl hl (fun x hx Ψ hq => ?_) (ea_nil (rcy (rc_all rfl ?_)))
        · o_readsAll
          exact ⟨g.at hx, hq⟩
        · rw [all_map]
          cases ha : (x0 :: xr).all fun x => withinB x 0 23 with
          | true =>
            o_readsAll
            exact ev_hours rfl (fun z => by cases z) hl ha q
          | false =>
            rw [hours_f ha] at q
            o_readsAll
            exact q
    | _ =>
      first
        | exact absurd rfl d1
        | (refine b_seq (b_if ?_)
           o_readsAll
           exact q)) h
end
theorem thg_int {i : Int} (h1 : -(10 ^ 40) ≤ i) (h2 : i ≤ 10 ^ 40) : ThG (.int i) := ⟨by simp [D.tyn], fun _ h => (by cases h), fun _ h => (by cases h), (fit_int ⟨by omega, by omega⟩).r⟩
theorem thg_str {z : Str} (h1 : z.length ≤ 1000) (h2 : PyData.strOk z = true) : ThG (.str z) := ⟨by simp [D.tyn], fun _ h => (by cases h), fun _ h => by cases h; exact ⟨h1, h2⟩, ⟨by simpa [D.okR] using h2, by show z.length ≤ 8000; omega⟩⟩
theorem pure_l_number {K : PySem.W.Frag} {vs : List V} {H : Hp} {Q : VK} {E : XK} (h : lift K (F_l_number K) vs H Q E) : t_l_number K E { nx := fun _ H' => Q .non H', rt := Q } (L2.start ["_law_bag_here", "_law_bound", "_law_beside"] vs) H :=
  lift_of (t := t_l_number K) (fun C ds w Φ hK hE ⟨b, e, hb, q⟩ => by
    subst hK hE e
    unfold t_l_number
    o_readsAll
    intro v v0 v1
    refine ry (rd_pick v0 v1 fun d hd => ?_)
    obtain ⟨i, rfl, i0, i1⟩ : ∃ i : Int, d = .int i ∧ -(10 ^ 31) ≤ i ∧ i ≤ 10 ^ 31 := by
      simp only [List.mem_cons, List.not_mem_nil, or_false] at hd
      rcases hd with rfl | rfl | rfl | rfl | rfl | rfl | rfl | rfl | rfl | rfl | rfl <;> exact ⟨_, rfl, by decide, by decide⟩
    o_readsAll
    intro u u0 u1
    o_readsAll
    intro v v0 v1
    refine ry (rd_pick v0 v1 fun d hd => ?_)
    obtain ⟨j, rfl, j0, j1⟩ : ∃ i : Int, d = .int i ∧ -(10 ^ 32) ≤ i ∧ i ≤ 10 ^ 32 := by
      simp only [List.mem_cons, List.not_mem_nil, or_false] at hd
      rcases hd with rfl | rfl | rfl | rfl | rfl | rfl | rfl | rfl <;> exact ⟨_, rfl, by omega, by omega⟩
    o_readsAll
    exact q _ (by omega) (by omega)) h
theorem ok_iff {z : Str} : PyData.strOk z = true ↔ ∀ c ∈ z.cps.toList, c < 1114112 := by
  unfold PyData.strOk
  rw [← Array.all_toList, List.all_eq_true]
  exact ⟨fun h c hc => of_decide_eq_true (h c hc), fun h c hc => decide_eq_true (h c hc)⟩
theorem cut_okS {z : Str} {lo hi : Option Int} : (cutS z lo hi).length ≤ z.length ∧ (PyData.strOk z = true → PyData.strOk (cutS z lo hi) = true) := by
  constructor
  · rw [TL.len_tl, TL.len_tl]
    show ((z.cps.toList.drop _).take _).length ≤ z.cps.toList.length
    rw [List.length_take, List.length_drop]
    omega
  · intro h
    rw [ok_iff] at h ⊢
    exact fun c hc => h c (List.mem_of_mem_drop (List.mem_of_mem_take hc))
theorem app_len (a b : Str) : (a ++ b).length = a.length + b.length := by
  rw [TL.len_tl, TL.tl_append, List.length_append, ← TL.len_tl, ← TL.len_tl]
theorem app_ok {a b : Str} (ha : PyData.strOk a = true) (hb : PyData.strOk b = true) : PyData.strOk (a ++ b) = true := by
  rw [ok_iff] at ha hb ⊢
  intro c hc
  have hc : c ∈ TL.tl (a ++ b) := hc
  rw [TL.tl_append] at hc
  exact (List.mem_append.mp hc).elim (ha c) (hb c)
theorem cps_join (l : List Nat) : Txt.join "" (l.map fun c => (⟨#[c]⟩ : Str)) = ⟨l.toArray⟩ := by
  have e : (l.map fun c => (⟨#[c]⟩ : Str)) = (l.map fun c => [c]).map SX.S := by rw [List.map_map]; rfl
  have e0 : ("" : Str) = SX.S [] := by decide +kernel
  rw [e, e0, SX.join_S]
  have key : ∀ l : List Nat, TL.joinL [] (l.map fun c => [c]) = l := by
    intro l
    induction l with
    | nil => rfl
    | cons b r ih =>
      cases r with
      | nil => rfl
      | cons c s =>
        show [b] ++ ([] ++ TL.joinL [] ((c :: s).map fun c => [c])) = _
        rw [ih]
        rfl
  rw [key]
/-- ''.join([.. for k in range(n)]), each a sign of text -/
theorem ev_textOf {C : Ctx} {δ : List Sl} {w : World} {ta : TA} {te : TE} {Φ : D → World → Prop} {K : PySem.W.Frag} (hK : K = C.K) (n : Int) {j : Nat} (h : EvA C ta δ w fun ds w1 => ds = [.int n] ∧ w1 = w) (hn : n ≤ 300 ∧ 0 ≤ n)
    (hs : ∀ k : Nat, EvD C te ((wipeS δ [j]).set j (.d (.int (k : Int)))) w fun d w1 => ∃ c, d = .str ⟨#[c]⟩ ∧ c < 1114112 ∧ w1 = w) (q : ∀ z : Str, (z.length : Int) = n → PyData.strOk z = true → Φ (.str z) w) :
    EvD C (tBM K "str" (rJoinU K) (tC (.str "")) (tCons (tLc (iRng1 ta) (gName j) tYes te [j]) tNil)) δ w Φ := by
  subst hK
  refine ev_bm (ev_str ⟨ty_str, ea_cons (ev_lc (fun k acc w' => w' = w ∧ ∃ l : List Nat, acc = l.map (fun c => D.str ⟨#[c]⟩) ∧ l.length = k ∧ ∀ c ∈ l, c < 1114112) (ei_R (h.mono fun ds w1 ⟨e, ew⟩ => ⟨n, e, ⟨by omega, by omega⟩, ?_⟩)))⟩)
  subst ew
  refine ⟨⟨rfl, [], rfl, rfl, fun _ z => by cases z⟩, by omega, fun _ _ _ _ => trivial, ?_, ?_⟩
  · rintro k x acc w' hk rfl ⟨rfl, l, rfl, hl, hc⟩
    refine gc_name (List.mem_singleton.mpr rfl) (et_yes ⟨fun _ => (hs k).mono fun d w1 ⟨c, e, hc1, ew⟩ => ⟨ew, l ++ [c], by rw [List.map_append, e]; rfl, by simp [hl], fun b hb => by
      rcases List.mem_append.mp hb with hb | hb
      · exact hc b hb
      · rw [List.mem_singleton.mp hb]; exact hc1⟩, fun z => (by cases z)⟩)
  · rintro acc w' ⟨rfl, l, rfl, hl, hc⟩
    refine ea_nil ?_
    have e1 : (l.map fun c => D.str ⟨#[c]⟩) = (l.map fun c => (⟨#[c]⟩ : Str)).map D.str := by rw [List.map_map]; rfl
    rw [e1]
    refine rm_join ?_ ?_
    · have e : ((l.map fun c => (⟨#[c]⟩ : Str)).map (·.length)).sum = l.length := by
        rw [List.map_map]
        clear hl hs e1 hc
        induction l with
        | nil => rfl
        | cons b r ih => rw [List.map_cons, List.sum_cons, ih, List.length_cons]; show 1 + _ = _; omega
      have e0 : ("" : Str).length = 0 := by decide +kernel
      rw [e, e0]
      omega
    · rw [cps_join]
      refine q _ ?_ (ok_iff.mpr hc)
      show ((l.toArray.size : Nat) : Int) = n
      rw [List.size_toArray]
      omega
theorem ixS_ok {z : Str} {v : Int} (h0 : 0 ≤ v) (h1 : v < z.length) (ok : PyData.strOk z = true) : ∃ c, atI z.cps.toList v = some c ∧ c < 1114112 := by
  have hl := ll_str z
  obtain ⟨c, hc⟩ : ∃ c, z.cps.toList[v.toNat]? = some c := ⟨_, List.getElem?_eq_getElem (by omega)⟩
  refine ⟨c, ?_, ok_iff.mp ok c (List.mem_of_getElem? hc)⟩
  have ev : v = ((v.toNat : Nat) : Int) := by omega
  rw [ev]
  exact atI_nat hc
theorem others_ok : PyData.strOk ("\n !\"#$&'()*+,-./0123456789:;<=>?@ABCDEFGHIJKLMNOPQRSTUVWXYZ[\\]^_`abcdefghijklmnopqrstuvwxyz{|}~" : Str) = true := by decide +kernel
theorem others_len : 1 ≤ ("\n !\"#$&'()*+,-./0123456789:;<=>?@ABCDEFGHIJKLMNOPQRSTUVWXYZ[\\]^_`abcdefghijklmnopqrstuvwxyz{|}~" : Str).length ∧ ("\n !\"#$&'()*+,-./0123456789:;<=>?@ABCDEFGHIJKLMNOPQRSTUVWXYZ[\\]^_`abcdefghijklmnopqrstuvwxyz{|}~" : Str).length ≤ 200 := by decide +kernel
theorem pure_l_some_text {K : PySem.W.Frag} {vs : List V} {H : Hp} {Q : VK} {E : XK} (h : lift K (F_l_some_text K) vs H Q E) : t_l_some_text K E { nx := fun _ H' => Q .non H', rt := Q } (L2.start ["_law_bag_here", "_law_signs", "_law_most", "_law_many", "_law_text", "_law_k", "_law_others", "_law_at"] vs) H :=
  lift_of (t := t_l_some_text K) (fun C ds w Φ hK hE ⟨b, x, m, e, ⟨hb, ⟨x1, x2, x3⟩, m1, m2⟩, q⟩ => by
    subst hK hE e
    unfold t_l_some_text
    generalize ho : ("\n !\"#$&'()*+,-./0123456789:;<=>?@ABCDEFGHIJKLMNOPQRSTUVWXYZ[\\]^_`abcdefghijklmnopqrstuvwxyz{|}~" : Str) = O
    have o1 := others_ok
    obtain ⟨o2, o3⟩ := others_len
    rw [ho] at o1 o2 o3
    o_readsAll
    intro v v0 v1
    o_readsAll
    intro u u0 u1
    refine ry (rd_pick u0 u1 fun d hd => ?_)
    obtain ⟨n, rfl, n0, n1⟩ : ∃ i : Int, d = .int i ∧ 0 ≤ i ∧ i ≤ 202 := by
      simp only [List.mem_cons, List.not_mem_nil, or_false] at hd
      rcases hd with rfl | rfl | rfl | rfl | rfl <;> exact ⟨_, rfl, by omega, by omega⟩
    refine b_seq (b_asg (ev_textOf rfl n (ea_cons (ev_var rfl (ea_nil ⟨rfl, rfl⟩))) ⟨by omega, n0⟩ (fun k => ?_) fun z zl zok => ?_))
    · o_readsAll
      refine rcy (rc_lenS (by rw [sizeLine_eq]; omega) ?_)
      o_readsAll
      intro v v0 v1
      obtain ⟨c, hc, ho⟩ := ixS_ok v0 v1 x3
      exact ry (rd_ixS (by rw [sizeLine_eq]; omega) hc ⟨c, rfl, ho, rfl⟩)
    o_readsAll
    · rename_i hz
      intro v v0 v1
      o_readsAll
      · exact q z (by omega) zok
      · have hn : 0 < n := by
          rcases Nat.eq_zero_or_pos z.length with e | e
          · refine absurd (TL.ext_tl ?_) hz
            have := TL.len_tl z
            rw [show TL.tl ("" : Str) = [] by decide +kernel]
            exact List.length_eq_zero_iff.mp (by omega)
          · omega
        refine ⟨⟨hn, by omega⟩, fun v v0 v1 => ?_⟩
        have zs : z.length ≤ sizeLine := by rw [sizeLine_eq]; omega
        obtain ⟨c1, c2⟩ := cut_okS (z := z) (lo := none) (hi := some v)
        obtain ⟨c3, c4⟩ := cut_okS (z := z) (lo := some (v + 1)) (hi := none)
        o_readsAll
        refine rs_str zs ?_
        o_readsAll
        refine rcy (rc_lenS (by rw [sizeLine_eq]; omega) ?_)
        o_readsAll
        intro u u0 u1
        obtain ⟨c, hc, hk⟩ := ixS_ok u0 u1 o1
        refine ry (rd_ixS (by rw [sizeLine_eq]; omega) hc ?_)
        have l1 : (⟨#[c]⟩ : Str).length = 1 := rfl
        have k1 : PyData.strOk (⟨#[c]⟩ : Str) = true := ok_iff.mpr fun b hb => by rw [List.mem_singleton.mp hb]; exact hk
        refine ry (rd_addS (by rw [sizeLine_eq]; omega) ?_)
        o_readsAll
        refine rs_str zs ?_
        refine ry (rd_addS (by rw [app_len, sizeLine_eq]; omega) ?_)
        exact q _ (by rw [app_len, app_len]; omega) (app_ok (app_ok (c2 zok) k1) (c4 zok))
    · exact q z (by omega) zok) h
theorem thg_of {d : D} (ty : d.tyn ≠ "") (st : ∀ x, d = .str x → x.length ≤ 1000 ∧ PyData.strOk x = true) (tp : ∀ xs, d = .tup xs → xs.length ≤ 1000) (ft : Fit d) : ThG d := ⟨ty, fun xs e => ⟨e ▸ ft, tp xs e⟩, st, ft.r⟩
def Sm (d : D) : Prop := D.ok 27 d = true ∧ D.wt d ≤ 60
theorem sm_int {i : Int} (h1 : -(10 ^ 40) ≤ i) (h2 : i ≤ 10 ^ 40) : Sm (.int i) := ⟨ok_int ⟨by omega, by omega⟩, by simp [D.wt]⟩
theorem sm_bl {b : Bool} : Sm (.bl b) := ⟨by simp [D.ok], by simp [D.wt]⟩
theorem sm_non : Sm .non := ⟨by simp [D.ok], by simp [D.wt]⟩
theorem sm_str {x : Str} (h1 : x.length ≤ 60) (h2 : PyData.strOk x = true) : Sm (.str x) := ⟨by simpa [D.ok] using h2, h1⟩
theorem ok_up : ∀ (n m : Nat) (d : D), n ≤ m → D.ok n d = true → D.ok m d = true := by
  intro n
  induction n with
  | zero =>
    intro m d h hk
    cases d <;> first | (simp [D.ok] at hk ⊢; done) | (cases m <;> simpa [D.ok] using hk)
  | succ n ih =>
    intro m d h hk
    obtain ⟨k, rfl⟩ : ∃ k, m = k + 1 := ⟨m - 1, by omega⟩
    cases d with
    | lst xs =>
      have hk : D.oks n xs = true := by simpa [D.ok] using hk
      show D.oks k xs = true
      exact oks_iff fun x hx => ih k x (by omega) (oks_mem hk hx)
    | tup xs =>
      have hk : D.oks n xs = true := by simpa [D.ok] using hk
      show D.oks k xs = true
      exact oks_iff fun x hx => ih k x (by omega) (oks_mem hk hx)
    | _ => simpa [D.ok] using hk
theorem sm_pair {i j : Int} (a1 : -(10 ^ 40) ≤ i) (a2 : i ≤ 10 ^ 40) (b1 : -(10 ^ 40) ≤ j) (b2 : j ≤ 10 ^ 40) : Sm (.tup [.int i, .int j]) := by
  refine ⟨?_, by simp [D.wt, D.wts]⟩
  show D.oks 26 [.int i, .int j] = true
  exact oks_iff fun x hx => by
    simp only [List.mem_cons, List.not_mem_nil, or_false] at hx
    rcases hx with rfl | rfl
    · exact ok_int ⟨by omega, by omega⟩
    · exact ok_int ⟨by omega, by omega⟩
theorem fit_sm {xs : List D} (h : xs.length ≤ 100) (hx : ∀ x ∈ xs, Sm x) : Fit (.lst xs) ∧ Fit (.tup xs) := by
  have h1 : D.oks 29 xs = true := oks_iff fun x h => ok_up 27 29 x (by omega) (hx x h).1
  have h2 := wts_le (k := 60) (xs := xs) fun x h => (hx x h).2
  have h3 : (60 + 1) * xs.length ≤ 61 * 100 := Nat.mul_le_mul (by omega) h
  exact ⟨⟨h1, by show D.wts xs ≤ 8000; omega⟩, ⟨h1, by show D.wts xs ≤ 8000; omega⟩⟩
theorem thg_lst {xs : List D} (h : xs.length ≤ 100) (hx : ∀ x ∈ xs, Sm x) : ThG (.lst xs) := ⟨by simp [D.tyn], fun _ z => (by cases z), fun _ z => (by cases z), (fit_sm h hx).1.r⟩
theorem thg_tup {xs : List D} (h : xs.length ≤ 100) (hx : ∀ x ∈ xs, Sm x) : ThG (.tup xs) := ⟨by simp [D.tyn], fun ys z => (by cases z; exact ⟨(fit_sm h hx).2, by omega⟩), fun _ z => (by cases z), (fit_sm h hx).2.r⟩
theorem pure_l_some_step {K : PySem.W.Frag} {vs : List V} {H : Hp} {Q : VK} {E : XK} (h : lift K (F_l_some_step K) vs H Q E) : t_l_some_step K E { nx := fun _ H' => Q .non H', rt := Q } (L2.start ["_law_bag_here", "_law_step", "_law_some"] vs) H :=
  lift_of (t := t_l_some_step K) (fun C ds w Φ hK hE ⟨b, e, hb, q⟩ => by
    subst hK hE e
    unfold t_l_some_step
    o_readsAll
    intro v v0 v1
    o_readsAll
    intro i i0 i1
    o_readsAll
    intro u u0 u1
    refine ry (rd_pick u0 u1 fun d hd => ?_)
    obtain ⟨k, rfl, k0, k1⟩ : ∃ k : Int, d = .int k ∧ -(10 ^ 40) ≤ k ∧ k ≤ 10 ^ 40 := by
      simp only [List.mem_cons, List.not_mem_nil, or_false] at hd
      rcases hd with rfl | rfl <;> exact ⟨_, rfl, by omega, by omega⟩
    o_readsAll
    intro j j0 j1
    o_readsAll
    refine ry (rd_addT (by simp) (by simp) (Nat.le_of_ble_eq_true rfl) ?_)
    o_readsAll
    refine rs_tup (by show ¬ (HT.sIx 2 0 none = 0 ∧ HT.sIx 2 2 (some 1) = 2); decide) ?_
    refine ea_cons (ev_frz (ev_cb (ea_cons (ev_var rfl (ea_nil (rc_listU fun r hr => ⟨r, _, rfl, set_same, ?_⟩))))))
    rw [set_del hr]
    o_readsAll
    refine ry (rd_ixT (atI_nat (j := 1) rfl) ?_)
    o_readsAll
    refine ry (rd_ixT (atI_nat (j := 0) rfl) ?_)
    o_readsAll
    refine ry (rd_addL (Nat.le_of_ble_eq_true rfl) ?_)
    o_readsAll
    intro v v0 v1
    refine ry (rd_pick v0 v1 fun d hd => q d ?_)
    simp only [List.mem_cons, List.mem_append, List.not_mem_nil, or_false] at hd
    have si : Sm (.int k) := sm_int k0 k1
    have sj : Sm (.int j) := sm_int j0 j1
    have s0 : Sm (.int 0) := sm_int (by decide) (by decide)
    have s1 : Sm (.int 1) := sm_int (by decide) (by decide)
    have all : ∀ {xs : List D}, xs.length ≤ 100 → (∀ x ∈ xs, Sm x) → ThG (.tup xs) := fun h hx => thg_tup h hx
    have t0 : ∀ {P : D → Prop}, (∀ x ∈ ([] : List D), P x) := fun _ h => by cases h
    have tc : ∀ {P : D → Prop} {a : D} {r : List D}, P a → (∀ x ∈ r, P x) → ∀ x ∈ a :: r, P x := fun ha hr x hx => by
      rcases List.mem_cons.mp hx with e | e
      · rw [e]; exact ha
      · exact hr x e
    rcases hd with (rfl | rfl | rfl | rfl | rfl | rfl) | rfl | rfl | rfl | rfl | rfl | rfl
    · exact all (Nat.le_of_ble_eq_true rfl) (tc si (tc sj t0))
    · exact all (Nat.le_of_ble_eq_true rfl) (tc si (tc sj t0))
    · exact all (Nat.le_of_ble_eq_true rfl) (tc si (tc sj (tc s0 t0)))
    · exact all (Nat.le_of_ble_eq_true rfl) (show ∀ x ∈ [D.int k], Sm x from tc si t0)
    · exact thg_lst (Nat.le_of_ble_eq_true rfl) (tc si (tc sj t0))
    · exact all (Nat.le_of_ble_eq_true rfl) (tc sj (tc si t0))
    · exact all (Nat.le_of_ble_eq_true rfl) (tc sm_bl (tc s1 t0))
    · exact all (Nat.le_of_ble_eq_true rfl) (tc s1 (tc sm_non t0))
    · exact all (Nat.le_of_ble_eq_true rfl) (tc (sm_pair k0 k1 j0 j1) t0)
    · exact all (Nat.le_of_ble_eq_true rfl) t0
    · exact all (Nat.le_of_ble_eq_true rfl) (tc s1 (tc sm_bl t0))
    · exact all (Nat.le_of_ble_eq_true rfl) (tc s1 (tc sm_bl t0))) h
section
local macro_rules | `(tactic| o_reads) => `(tactic| with_reducible refine b_sub ?_)
theorem pure_l_some_hours {K : PySem.W.Frag} {vs : List V} {H : Hp} {Q : VK} {E : XK} (h : lift K (F_l_some_hours K) vs H Q E) : t_l_some_hours K E { nx := fun _ H' => Q .non H', rt := Q } (L2.start ["_law_bag_here", "_law_hours", "_law_k", "_law_hour"] vs) H :=
  lift_of (t := t_l_some_hours K) (fun C ds w Φ hK hE ⟨b, e, hb, q⟩ => by
    subst hK hE e
    unfold t_l_some_hours
    refine b_seq (b_asg (en_lc (fun k acc w2 => w2 = w ∧ ∃ ns : List Int, acc = ns.map D.int ∧ ns.length = k ∧ ∀ i ∈ ns, 0 ≤ i ∧ i ≤ 23) (ei_R (ea_cons ?_))))
    o_readsAll
    intro v v0 v1
    o_readsAll
    intro u u0 u1
    refine ry (rd_pick u0 u1 fun d hd => ?_)
    obtain ⟨n, rfl, n0, n1⟩ : ∃ i : Int, d = .int i ∧ 0 ≤ i ∧ i ≤ 24 := by
      simp only [List.mem_cons, List.not_mem_nil, or_false] at hd
      rcases hd with rfl | rfl | rfl | rfl <;> exact ⟨_, rfl, by omega, by omega⟩
    refine ea_nil ⟨n, rfl, ⟨by omega, by omega⟩, ⟨rfl, [], rfl, rfl, fun _ z => by cases z⟩, by omega, fun _ _ _ _ => trivial, ?_, ?_⟩
    · rintro k x acc w2 hk rfl ⟨rfl, ns, rfl, hl, hi⟩
      refine gc_name (List.mem_singleton.mpr rfl) (et_yes ⟨fun _ => ?_, fun z => (by cases z)⟩)
      o_readsAll
      intro v v0 v1
      exact ⟨rfl, ns ++ [v], by rw [List.map_append]; rfl, by simp [hl], fun i hx => by
        rcases List.mem_append.mp hx with hx | hx
        · exact hi i hx
        · rw [List.mem_singleton.mp hx]; omega⟩
    rintro acc w2 ⟨rfl, ns, rfl, hl, hi⟩ y hy
    have hb2 : ∀ {w : World} {y : Addr} (o : MO), w b = some (bagO b) → w y = none → (w.set y o) b = some (bagO b) := fun o h1 h2 => by
      rw [set_ne (fun e => by rw [e, h2] at h1; cases h1)]; exact h1
    have hb3 := hb2 (.p (.lst (ns.map D.int))) hb hy
    refine b_seqW (fun δ' w' => ∃ (y : Addr) (ns : List Int) (x2 x3 : Sl), w2 y = none ∧ Sub' (w2.set y (.p (.lst (ns.map D.int)))) w' ∧ (ns.length ≤ 30 ∧ ∀ i ∈ ns, 0 ≤ i ∧ i ≤ 23) ∧ δ' = [.d (.adr b), .d (.adr y), x2, x3]) ?_ ?_
    · o_readsAll
      intro v v0 v1
      o_readsAll
      · refine en_lc (fun k acc w3 => w3 = w2.set y (.p (.lst (ns.map D.int))) ∧ ∃ ms : List Int, acc = ms.map D.int ∧ ms.length ≤ k ∧ ∀ i ∈ ms, 0 ≤ i ∧ i ≤ 23) (ei_R (ea_cons (ev_int (ea_nil ⟨24, rfl, ⟨by decide, by decide⟩, ⟨rfl, [], rfl, Nat.le_refl _, fun _ z => by cases z⟩, by decide, fun _ _ _ _ => trivial, ?_, ?_⟩))))
        · rintro k x acc w3 hk rfl ⟨rfl, ms, rfl, ml, mi⟩
          have hk : k < 24 := hk
          refine gc_name (List.mem_singleton.mpr rfl) (et_test (ev_op (ev_var rfl (ev_var rfl (ry_inC set_same rfl (List.all_eq_true.mpr fun d hd => by obtain ⟨_, _, rfl⟩ := List.mem_map.mp hd; rfl) ⟨_, rfl, fun hb => ?_, fun hb => ?_⟩)))))
          · refine ev_var rfl ⟨rfl, ms ++ [(k : Int)], by rw [List.map_append]; rfl, by simp; omega, fun i hx => ?_⟩
            rcases List.mem_append.mp hx with hx | hx
            · exact mi i hx
            · rw [List.mem_singleton.mp hx]; omega
          · exact ⟨rfl, ms, rfl, by omega, mi⟩
        · rintro acc w3 ⟨rfl, ms, rfl, ml, mi⟩ y2 hy2
          have ml : ms.length ≤ 24 := ml
          have ne : y2 ≠ y := fun e => by rw [e, set_same] at hy2; cases hy2
          rw [set_ne ne] at hy2
          refine ⟨y2, ms, _, _, hy2, fun a o h => ?_, ⟨by omega, mi⟩, rfl⟩
          by_cases ea : a = y2
          · rw [ea, set_same] at h ⊢; exact h
          · rw [set_ne ea] at h ⊢
            rw [set_ne (fun e => by rw [e, hy] at h; cases h)]
            exact h
      · exact ⟨y, ns, _, _, hy, fun _ _ h => h, ⟨by omega, hi⟩, rfl⟩
    rintro δ' w' ⟨y, ns, x2, x3, hy, s, ⟨hl, hi⟩, rfl⟩
    refine Blk.sub s ?_
    refine b_seqW (fun δ' w' => ∃ (xs : List D), w' = w2.set y (.p (.lst xs)) ∧ (xs.length ≤ 30 ∧ ∀ x ∈ xs, Sm x) ∧ δ' = [.d (.adr b), .d (.adr y), x2, x3]) ?_ ?_
    · have sm : ∀ x ∈ ns.map D.int, Sm x := fun x hx => by
        obtain ⟨i, hn, rfl⟩ := List.mem_map.mp hx
        have := hi i hn
        exact sm_int (by omega) (by omega)
      have hb4 := hb2 (.p (.lst (ns.map D.int))) hb hy
      o_readsAll
      refine ry_neC set_same (fit_sm (by rw [List.length_map]; omega) sm).1 ⟨by decide, by decide⟩ ?_
      cases ns with
      | nil =>
        refine ⟨false, rfl, fun z => (by cases z), fun _ => ?_⟩
        o_readsAll
      | cons n0 nr =>
        refine ⟨true, rfl, fun _ => ?_, fun z => (by cases z)⟩
        o_readsAll
        intro v v0 v1
        o_readsAll
        · intro u u0 u1
          refine ry (rd_pick u0 u1 fun d hd => ?_)
          have sd : Sm d := by
            simp only [List.mem_cons, List.not_mem_nil, or_false] at hd
            rcases hd with rfl | rfl | rfl | rfl | rfl | rfl | rfl
            · exact sm_int (by decide) (by decide)
            · exact sm_int (by decide) (by decide)
            · exact sm_bl
            · exact sm_non
            · exact sm_str (by decide +kernel) (by decide +kernel)
            · exact sm_int (by decide) (by decide)
            · exact sm_int (by decide) (by decide)
          o_readsAll
          refine rc_lenC set_same ⟨_, rfl, hb4, ⟨by rw [List.length_map, List.length_cons]; omega, by rw [List.length_map]; omega⟩, fun m m0 m1 => ⟨y, _, m, m.toNat, rfl, rfl, set_same, ?_, ?_⟩⟩
          · have em : m = ((m.toNat : Nat) : Int) := by omega
            rw [em]
            exact ixN_nat (by omega)
          · refine ⟨_, by rw [set_set], ⟨by rw [List.length_set, List.length_map]; omega, fun x hx => ?_⟩, rfl⟩
            rcases List.mem_or_eq_of_mem_set hx with hx | rfl
            · exact sm x hx
            · exact sd
        · exact ⟨⟨by rw [List.length_map]; omega, sm⟩, rfl⟩
    rintro δ' w' ⟨xs, rfl, ⟨hl, hi⟩, rfl⟩
    refine b_frz 1 rfl set_same ?_
    rw [set_del hy]
    o_readsAll
    refine rc_tupT ?_
    o_readsAll
    refine rc_tupT ?_
    o_readsAll
    refine rc_tupT ?_
    o_readsAll
    intro v v0 v1
    refine ry (rd_pick v0 v1 fun d hd => q d ?_)
    simp only [List.mem_cons, List.not_mem_nil, or_false] at hd
    rcases hd with rfl | rfl | rfl | rfl
    · exact thg_tup (by omega) hi
    · exact thg_tup (by omega) hi
    · exact thg_tup (by omega) hi
    · exact thg_lst (by omega) hi) h
end
theorem pure_l_thing {K : PySem.W.Frag} {vs : List V} {H : Hp} {Q : VK} {E : XK} (h : lift K (F_l_thing K) vs H Q E) : t_l_thing K E { nx := fun _ H' => Q .non H', rt := Q } (L2.start ["_law_bag_here", "_law_way", "_law_some"] vs) H :=
  lift_of (t := t_l_thing K) (fun C ds w Φ hK hE ⟨b, e, hb, q⟩ => by
    subst hK hE e
    unfold t_l_thing
    o_readsAll
    intro v v0 v1
    o_readsAll
    · exact fun i i0 i1 => q _ (thg_int i0 i1)
    · exact ⟨⟨hb, by decide +kernel, by decide, by decide⟩, fun z z1 z2 => q _ (thg_str z1 z2)⟩
    · exact ⟨⟨hb, by decide +kernel, by decide, by decide⟩, fun z z1 z2 => q _ (thg_str z1 z2)⟩
    · exact q
    · exact q
    · refine ev_dct0 ?_
      refine ea_cons (ev_dct1 (fun M H => .int 1) ?_)
      o_readsAll
      intro v v0 v1
      refine ry (rd_pick v0 v1 fun d hd => q d ?_)
      simp only [List.mem_cons, List.not_mem_nil, or_false] at hd
      have dc : ∀ {d : D}, d.tyn ≠ "" → (∀ x, d ≠ .tup x) → (∀ x, d ≠ .str x) → D.okR 30 d = true → d.wtR ≤ 8000 → ThG d := fun h1 h2 h3 h4 h5 => ⟨h1, fun x e => absurd e (h2 x), fun x e => absurd e (h3 x), ⟨h4, h5⟩⟩
      have s1 : Sm (.int 1) := sm_int (by decide) (by decide)
      have s0 : Sm (.int 0) := sm_int (by decide) (by decide)
      have sa : Sm (.str "a") := sm_str (by decide +kernel) (by decide +kernel)
      have one : ∀ {a : D}, Sm a → ∀ x ∈ [a], Sm x := fun h x hx => by rw [List.mem_singleton.mp hx]; exact h
      rcases hd with rfl | rfl | rfl | rfl | rfl | rfl | rfl | rfl | rfl | rfl | rfl | rfl | rfl
      · exact dc (by decide +kernel) (fun _ => by simp) (fun _ => by simp) (by decide +kernel) (by decide +kernel)
      · exact dc (by decide +kernel) (fun _ => by simp) (fun _ => by simp) (by decide +kernel) (by decide +kernel)
      · exact dc (by decide +kernel) (fun _ => by simp) (fun _ => by simp) (by decide +kernel) (by decide +kernel)
      · exact thg_str (by decide +kernel) (by decide +kernel)
      · exact thg_lst (by decide) (fun _ z => by cases z)
      · exact thg_tup (by decide) (fun _ z => by cases z)
      · exact dc (by decide +kernel) (fun _ => by simp) (fun _ => by simp) (by decide +kernel) (by decide +kernel)
      · exact dc (by decide +kernel) (fun _ => by simp) (fun _ => by simp) (by decide +kernel) (by decide +kernel)
      · exact thg_lst (by decide) (one s1)
      · exact thg_tup (by decide) (one sa)
      · exact thg_tup (by decide) (one s0)
      · exact thg_lst (by decide) (one (sm_pair (by decide) (by decide) (by decide) (by decide)))
      · exact thg_tup (by decide) (one (sm_pair (by decide) (by decide) (by decide) (by decide)))) h
theorem pure_l_asked {K : PySem.W.Frag} {vs : List V} {H : Hp} {Q : VK} {E : XK} (h : lift K (F_l_asked K) vs H Q E) : t_l_asked K E { nx := fun _ H' => Q .non H', rt := Q } (L2.start ["_law_thing_here", "_law_found"] vs) H :=
  lift_of (t := t_l_asked K) (fun C ds w Φ hK hE ⟨d, e, g, q⟩ => by
    subst hK hE e
    have d1 := g.ty
    have d2 : ∀ x, d = .str x → x.length ≤ 16777216 := fun x h => by have := (g.st x h).1; omega
    unfold t_l_asked
    o_readsAll
    refine ry (rd_addL (Nat.le_of_ble_eq_true rfl) ?_)
    o_readsAll
    refine ry (rd_addL (Nat.le_of_ble_eq_true rfl) ?_)
    exact q) h
theorem pure_l_due {K : PySem.W.Frag} {vs : List V} {H : Hp} {Q : VK} {E : XK} (h : lift K (F_l_due K) vs H Q E) : t_l_due K E { nx := fun _ H' => Q .non H', rt := Q } (L2.start ["_law_thing_here", "_law_whole", "_law_due_here"] vs) H :=
  lift_of (t := t_l_due K) (fun C ds w Φ hK hE ⟨d, e, g, q⟩ => by
    subst hK hE e
    have d1 := g.ty
    unfold t_l_due
    have w1 : d.isI = true → (!d.isB) = wholeB d := fun z => by cases d <;> first | rfl | cases z
    have w2 : d.isI = false → false = wholeB d := fun z => by cases d <;> first | rfl | cases z
    o_readsAll
    · rename_i z
      rw [w1 z]
      refine ry (rd_addL (Nat.le_of_ble_eq_true rfl) ?_)
      o_readsAll
      refine ry (rd_addL (Nat.le_of_ble_eq_true rfl) ?_)
      o_readsAll
      refine ry (rd_addL (Nat.le_of_ble_eq_true rfl) ?_)
      exact q
    · rename_i z
      rw [w2 z]
      refine ry (rd_addL (Nat.le_of_ble_eq_true rfl) ?_)
      o_readsAll
      refine ry (rd_addL (Nat.le_of_ble_eq_true rfl) ?_)
      o_readsAll
      refine ry (rd_addL (Nat.le_of_ble_eq_true rfl) ?_)
      exact q) h
theorem fit_bools {bs : List Bool} (h : bs.length ≤ 100) : Fit (.lst (bs.map D.bl)) := by
  refine ⟨?_, ?_⟩
  · show D.oks 29 (bs.map D.bl) = true
    exact oks_iff fun x hx => by
      obtain ⟨b, _, rfl⟩ := List.mem_map.mp hx
      simp [D.ok]
  · have := wts_le (k := 0) (xs := bs.map D.bl) fun x hx => by
      obtain ⟨b, _, rfl⟩ := List.mem_map.mp hx
      simp [D.wt]
    rw [List.length_map] at this
    show D.wts (bs.map D.bl) ≤ 8000
    omega
theorem pure_law {K : PySem.W.Frag} (S : SysOk K) {vs : List V} {H : Hp} {Q : VK} {E : XK} (h : spLaw K vs H Q E) : t_law K E { nx := fun _ H' => Q .non H', rt := Q } (L2.start ["_law_script", "_law_bag_here", "_law_turn", "_law_thing_here", "_law_shown"] vs) H :=
  bag_start (by decide) (fun C b w hK hE hX hb => by
    subst hK hE
    o_readsAll
    refine b_for (fun i δ w' => w' = w ∧ ∃ (x2 x3 x4 : Sl), δ = [.no, .d (.adr b), x2, x3, x4]) (ei_R (ea_cons (ev_int (ea_nil ⟨_, rfl, ⟨by decide, by decide⟩, ⟨rfl, _, _, _, rfl⟩, fun _ _ _ _ => trivial, ?_, ?_⟩))))
    · rintro i x δ w' hi rfl ⟨rfl, x2, x3, x4, rfl⟩
      refine g_name ?_
      o_readsAll
      intro d g
      o_readsAll
      refine rcy (rc_reprR S g.ft ?_)
      o_readsAll
      refine rcy (rc_repr (fit_bools (by decide : 11 ≤ 100)) ?_)
      o_readsAll
      refine rcy (rc_repr (fit_bools (by decide : 11 ≤ 100)) ?_)
      o_readsAll
      · refine rcy (rc_reprR S g.ft ?_)
        o_readsAll
        exact ⟨by simp, rfl, _, _, _, rfl⟩
      · rename_i z
        exact absurd rfl z
    · rintro δ w' ⟨rfl, x2, x3, x4, rfl⟩
      o_readsAll) h
end Wn.Y.L11
end

namespace Wn.Y.L11
open PySem PySem.Spec PyProof.Rows L2
def top (i : Nat) : Stmt := PySem.Challenge.pw_wanehold_k11_kinds_told.main.body.getD i (.Pass ⟨0, 0, 0, 0⟩)
abbrev s_l_bag : Stmt := (top 21)
abbrev s_l_take : Stmt := (top 22)
abbrev s_l_number : Stmt := (top 28)
abbrev s_l_some_text : Stmt := (top 29)
abbrev s_l_some_hours : Stmt := (top 30)
abbrev s_l_some_step : Stmt := (top 31)
abbrev s_l_thing : Stmt := (top 32)
abbrev s_is_whole : Stmt := (top 8)
abbrev s_is_name : Stmt := (top 10)
abbrev s_is_within : Stmt := (top 9)
abbrev s_is_sort : Stmt := (top 11)
abbrev s_is_strength : Stmt := (top 12)
abbrev s_is_size : Stmt := (top 13)
abbrev s_is_shift : Stmt := (top 14)
abbrev s_is_room : Stmt := (top 15)
abbrev s_is_moment : Stmt := (top 16)
abbrev s_are_hours : Stmt := (top 17)
abbrev s_is_row : Stmt := (top 18)
abbrev s_is_step : Stmt := (top 19)
abbrev s_l_asked : Stmt := (top 33)
abbrev s_l_is_name : Stmt := (top 25)
abbrev s_l_within : Stmt := (top 23)
abbrev s_l_are_hours : Stmt := (top 26)
abbrev s_l_is_row : Stmt := (top 27)
abbrev s_l_is_step : Stmt := (top 24)
abbrev s_l_due : Stmt := (top 34)
abbrev s_law : Stmt := (top 35)
theorem sc_l_bag : FnScope ["_law_script", "_law_cell"] ["_law_script"] (defScope s_l_bag) := ⟨rfl, rfl, rfl, by decide +kernel, rfl, by decide +kernel, by decide +kernel⟩
theorem sc_l_take : FnScope ["_law_bag_here", "_law_many", "_law_cell", "_law_value", "_law_first", "_law_second"] ["_law_bag_here", "_law_many"] (defScope s_l_take) := ⟨rfl, rfl, rfl, by decide +kernel, rfl, by decide +kernel, by decide +kernel⟩
theorem sc_l_number : FnScope ["_law_bag_here", "_law_bound", "_law_beside"] ["_law_bag_here"] (defScope s_l_number) := ⟨rfl, rfl, rfl, by decide +kernel, rfl, by decide +kernel, by decide +kernel⟩
theorem sc_l_some_text : FnScope ["_law_bag_here", "_law_signs", "_law_most", "_law_many", "_law_text", "_law_k", "_law_others", "_law_at"] ["_law_bag_here", "_law_signs", "_law_most"] (defScope s_l_some_text) := ⟨rfl, rfl, rfl, by decide +kernel, rfl, by decide +kernel, by decide +kernel⟩
theorem sc_l_some_hours : FnScope ["_law_bag_here", "_law_hours", "_law_k", "_law_hour"] ["_law_bag_here"] (defScope s_l_some_hours) := ⟨rfl, rfl, rfl, by decide +kernel, rfl, by decide +kernel, by decide +kernel⟩
theorem sc_l_some_step : FnScope ["_law_bag_here", "_law_step", "_law_some"] ["_law_bag_here"] (defScope s_l_some_step) := ⟨rfl, rfl, rfl, by decide +kernel, rfl, by decide +kernel, by decide +kernel⟩
theorem sc_l_thing : FnScope ["_law_bag_here", "_law_way", "_law_some"] ["_law_bag_here"] (defScope s_l_thing) := ⟨rfl, rfl, rfl, by decide +kernel, rfl, by decide +kernel, by decide +kernel⟩
theorem sc_is_whole : FnScope ["thing"] ["thing"] (defScope s_is_whole) := ⟨rfl, rfl, rfl, by decide +kernel, rfl, by decide +kernel, by decide +kernel⟩
theorem sc_is_name : FnScope ["thing", "sign"] ["thing"] (defScope s_is_name) := ⟨rfl, rfl, rfl, by decide +kernel, rfl, by decide +kernel, by decide +kernel⟩
theorem sc_is_within : FnScope ["thing", "least", "most"] ["thing", "least", "most"] (defScope s_is_within) := ⟨rfl, rfl, rfl, by decide +kernel, rfl, by decide +kernel, by decide +kernel⟩
theorem sc_is_sort : FnScope ["thing"] ["thing"] (defScope s_is_sort) := ⟨rfl, rfl, rfl, by decide +kernel, rfl, by decide +kernel, by decide +kernel⟩
theorem sc_is_strength : FnScope ["thing"] ["thing"] (defScope s_is_strength) := ⟨rfl, rfl, rfl, by decide +kernel, rfl, by decide +kernel, by decide +kernel⟩
theorem sc_is_size : FnScope ["thing"] ["thing"] (defScope s_is_size) := ⟨rfl, rfl, rfl, by decide +kernel, rfl, by decide +kernel, by decide +kernel⟩
theorem sc_is_shift : FnScope ["thing"] ["thing"] (defScope s_is_shift) := ⟨rfl, rfl, rfl, by decide +kernel, rfl, by decide +kernel, by decide +kernel⟩
theorem sc_is_room : FnScope ["thing"] ["thing"] (defScope s_is_room) := ⟨rfl, rfl, rfl, by decide +kernel, rfl, by decide +kernel, by decide +kernel⟩
theorem sc_is_moment : FnScope ["thing"] ["thing"] (defScope s_is_moment) := ⟨rfl, rfl, rfl, by decide +kernel, rfl, by decide +kernel, by decide +kernel⟩
theorem sc_are_hours : FnScope ["thing", "hour", "k"] ["thing"] (defScope s_are_hours) := ⟨rfl, rfl, rfl, by decide +kernel, rfl, by decide +kernel, by decide +kernel⟩
theorem sc_is_row : FnScope ["thing", "sign"] ["thing"] (defScope s_is_row) := ⟨rfl, rfl, rfl, by decide +kernel, rfl, by decide +kernel, by decide +kernel⟩
theorem sc_is_step : FnScope ["thing"] ["thing"] (defScope s_is_step) := ⟨rfl, rfl, rfl, by decide +kernel, rfl, by decide +kernel, by decide +kernel⟩
theorem sc_l_asked : FnScope ["_law_thing_here", "_law_found"] ["_law_thing_here"] (defScope s_l_asked) := ⟨rfl, rfl, rfl, by decide +kernel, rfl, by decide +kernel, by decide +kernel⟩
theorem sc_l_is_name : FnScope ["_law_thing_here", "_law_sign"] ["_law_thing_here"] (defScope s_l_is_name) := ⟨rfl, rfl, rfl, by decide +kernel, rfl, by decide +kernel, by decide +kernel⟩
theorem sc_l_within : FnScope ["_law_thing_here", "_law_low", "_law_high"] ["_law_thing_here", "_law_low", "_law_high"] (defScope s_l_within) := ⟨rfl, rfl, rfl, by decide +kernel, rfl, by decide +kernel, by decide +kernel⟩
theorem sc_l_are_hours : FnScope ["_law_thing_here", "_law_one", "_law_k"] ["_law_thing_here"] (defScope s_l_are_hours) := ⟨rfl, rfl, rfl, by decide +kernel, rfl, by decide +kernel, by decide +kernel⟩
theorem sc_l_is_row : FnScope ["_law_thing_here", "_law_sign"] ["_law_thing_here"] (defScope s_l_is_row) := ⟨rfl, rfl, rfl, by decide +kernel, rfl, by decide +kernel, by decide +kernel⟩
theorem sc_l_is_step : FnScope ["_law_thing_here"] ["_law_thing_here"] (defScope s_l_is_step) := ⟨rfl, rfl, rfl, by decide +kernel, rfl, by decide +kernel, by decide +kernel⟩
theorem sc_l_due : FnScope ["_law_thing_here", "_law_whole", "_law_due_here"] ["_law_thing_here"] (defScope s_l_due) := ⟨rfl, rfl, rfl, by decide +kernel, rfl, by decide +kernel, by decide +kernel⟩
theorem sc_law : FnScope ["_law_script", "_law_bag_here", "_law_turn", "_law_thing_here", "_law_shown"] ["_law_script"] (defScope s_law) := ⟨rfl, rfl, rfl, by decide +kernel, rfl, by decide +kernel, by decide +kernel⟩
abbrev Fd_l_bag (K : PySem.W.Frag) (f : Addr) (fd : FuncData) : Prop := FunD K "_law_bag" "_law_bag" (defArgs s_l_bag) (defBody s_l_bag) (defScope s_l_bag) [] [] f fd
abbrev Fd_l_take (K : PySem.W.Frag) (f : Addr) (fd : FuncData) : Prop := FunD K "_law_take" "_law_take" (defArgs s_l_take) (defBody s_l_take) (defScope s_l_take) [] [] f fd
abbrev Fd_l_number (K : PySem.W.Frag) (f : Addr) (fd : FuncData) : Prop := FunD K "_law_number" "_law_number" (defArgs s_l_number) (defBody s_l_number) (defScope s_l_number) [] [] f fd
abbrev Fd_l_some_text (K : PySem.W.Frag) (f : Addr) (fd : FuncData) : Prop := FunD K "_law_some_text" "_law_some_text" (defArgs s_l_some_text) (defBody s_l_some_text) (defScope s_l_some_text) [] [] f fd
abbrev Fd_l_some_hours (K : PySem.W.Frag) (f : Addr) (fd : FuncData) : Prop := FunD K "_law_some_hours" "_law_some_hours" (defArgs s_l_some_hours) (defBody s_l_some_hours) (defScope s_l_some_hours) [] [] f fd
abbrev Fd_l_some_step (K : PySem.W.Frag) (f : Addr) (fd : FuncData) : Prop := FunD K "_law_some_step" "_law_some_step" (defArgs s_l_some_step) (defBody s_l_some_step) (defScope s_l_some_step) [] [] f fd
abbrev Fd_l_thing (K : PySem.W.Frag) (f : Addr) (fd : FuncData) : Prop := FunD K "_law_thing" "_law_thing" (defArgs s_l_thing) (defBody s_l_thing) (defScope s_l_thing) [] [] f fd
abbrev Fd_is_whole (K : PySem.W.Frag) (f : Addr) (fd : FuncData) : Prop := FunD K "is_whole" "is_whole" (defArgs s_is_whole) (defBody s_is_whole) (defScope s_is_whole) [] [] f fd
abbrev Fd_is_name (K : PySem.W.Frag) (f : Addr) (fd : FuncData) : Prop := FunD K "is_name" "is_name" (defArgs s_is_name) (defBody s_is_name) (defScope s_is_name) [] [] f fd
abbrev Fd_is_within (K : PySem.W.Frag) (f : Addr) (fd : FuncData) : Prop := FunD K "is_within" "is_within" (defArgs s_is_within) (defBody s_is_within) (defScope s_is_within) [] [] f fd
abbrev Fd_is_sort (K : PySem.W.Frag) (f : Addr) (fd : FuncData) : Prop := FunD K "is_sort" "is_sort" (defArgs s_is_sort) (defBody s_is_sort) (defScope s_is_sort) [] [] f fd
abbrev Fd_is_strength (K : PySem.W.Frag) (f : Addr) (fd : FuncData) : Prop := FunD K "is_strength" "is_strength" (defArgs s_is_strength) (defBody s_is_strength) (defScope s_is_strength) [] [] f fd
abbrev Fd_is_size (K : PySem.W.Frag) (f : Addr) (fd : FuncData) : Prop := FunD K "is_size" "is_size" (defArgs s_is_size) (defBody s_is_size) (defScope s_is_size) [] [] f fd
abbrev Fd_is_shift (K : PySem.W.Frag) (f : Addr) (fd : FuncData) : Prop := FunD K "is_shift" "is_shift" (defArgs s_is_shift) (defBody s_is_shift) (defScope s_is_shift) [] [] f fd
abbrev Fd_is_room (K : PySem.W.Frag) (f : Addr) (fd : FuncData) : Prop := FunD K "is_room" "is_room" (defArgs s_is_room) (defBody s_is_room) (defScope s_is_room) [] [] f fd
abbrev Fd_is_moment (K : PySem.W.Frag) (f : Addr) (fd : FuncData) : Prop := FunD K "is_moment" "is_moment" (defArgs s_is_moment) (defBody s_is_moment) (defScope s_is_moment) [] [] f fd
abbrev Fd_are_hours (K : PySem.W.Frag) (f : Addr) (fd : FuncData) : Prop := FunD K "are_hours" "are_hours" (defArgs s_are_hours) (defBody s_are_hours) (defScope s_are_hours) [] [] f fd
abbrev Fd_is_row (K : PySem.W.Frag) (f : Addr) (fd : FuncData) : Prop := FunD K "is_row" "is_row" (defArgs s_is_row) (defBody s_is_row) (defScope s_is_row) [] [] f fd
abbrev Fd_is_step (K : PySem.W.Frag) (f : Addr) (fd : FuncData) : Prop := FunD K "is_step" "is_step" (defArgs s_is_step) (defBody s_is_step) (defScope s_is_step) [] [] f fd
abbrev Fd_l_asked (K : PySem.W.Frag) (f : Addr) (fd : FuncData) : Prop := FunD K "_law_asked" "_law_asked" (defArgs s_l_asked) (defBody s_l_asked) (defScope s_l_asked) [] [] f fd
abbrev Fd_l_is_name (K : PySem.W.Frag) (f : Addr) (fd : FuncData) : Prop := FunD K "_law_is_name" "_law_is_name" (defArgs s_l_is_name) (defBody s_l_is_name) (defScope s_l_is_name) [] [] f fd
abbrev Fd_l_within (K : PySem.W.Frag) (f : Addr) (fd : FuncData) : Prop := FunD K "_law_within" "_law_within" (defArgs s_l_within) (defBody s_l_within) (defScope s_l_within) [] [] f fd
abbrev Fd_l_are_hours (K : PySem.W.Frag) (f : Addr) (fd : FuncData) : Prop := FunD K "_law_are_hours" "_law_are_hours" (defArgs s_l_are_hours) (defBody s_l_are_hours) (defScope s_l_are_hours) [] [] f fd
abbrev Fd_l_is_row (K : PySem.W.Frag) (f : Addr) (fd : FuncData) : Prop := FunD K "_law_is_row" "_law_is_row" (defArgs s_l_is_row) (defBody s_l_is_row) (defScope s_l_is_row) [] [] f fd
abbrev Fd_l_is_step (K : PySem.W.Frag) (f : Addr) (fd : FuncData) : Prop := FunD K "_law_is_step" "_law_is_step" (defArgs s_l_is_step) (defBody s_l_is_step) (defScope s_l_is_step) [] [] f fd
abbrev Fd_l_due (K : PySem.W.Frag) (f : Addr) (fd : FuncData) : Prop := FunD K "_law_due" "_law_due" (defArgs s_l_due) (defBody s_l_due) (defScope s_l_due) [] [] f fd
abbrev Fd_law (K : PySem.W.Frag) (f : Addr) (fd : FuncData) : Prop := FunD K "law" "law" (defArgs s_law) (defBody s_law) (defScope s_law) [] [] f fd
/-- what the head tells -/
structure T (K : PySem.W.Frag) (mg : Str → Option Value) : Prop where
  b_abs : mg "abs" = none
  b_all : mg "all" = none
  b_bool : mg "bool" = none
  b_int : mg "int" = none
  b_isinstance : mg "isinstance" = none
  b_len : mg "len" = none
  b_list : mg "list" = none
  b_range : mg "range" = none
  b_repr : mg "repr" = none
  b_str : mg "str" = none
  b_tuple : mg "tuple" = none
  g_l_are_hours : mg "_law_are_hours" = some (.ref (He.ga K "_law_are_hours"))
  g_l_asked : mg "_law_asked" = some (.ref (He.ga K "_law_asked"))
  g_l_bag : mg "_law_bag" = some (.ref (He.ga K "_law_bag"))
  g_l_due : mg "_law_due" = some (.ref (He.ga K "_law_due"))
  g_l_is_name : mg "_law_is_name" = some (.ref (He.ga K "_law_is_name"))
  g_l_is_row : mg "_law_is_row" = some (.ref (He.ga K "_law_is_row"))
  g_l_is_step : mg "_law_is_step" = some (.ref (He.ga K "_law_is_step"))
  g_l_number : mg "_law_number" = some (.ref (He.ga K "_law_number"))
  g_l_some_hours : mg "_law_some_hours" = some (.ref (He.ga K "_law_some_hours"))
  g_l_some_step : mg "_law_some_step" = some (.ref (He.ga K "_law_some_step"))
  g_l_some_text : mg "_law_some_text" = some (.ref (He.ga K "_law_some_text"))
  g_l_take : mg "_law_take" = some (.ref (He.ga K "_law_take"))
  g_l_thing : mg "_law_thing" = some (.ref (He.ga K "_law_thing"))
  g_l_within : mg "_law_within" = some (.ref (He.ga K "_law_within"))
  g_are_hours : mg "are_hours" = some (.ref (He.ga K "are_hours"))
  g_is_moment : mg "is_moment" = some (.ref (He.ga K "is_moment"))
  g_is_name : mg "is_name" = some (.ref (He.ga K "is_name"))
  g_is_room : mg "is_room" = some (.ref (He.ga K "is_room"))
  g_is_row : mg "is_row" = some (.ref (He.ga K "is_row"))
  g_is_shift : mg "is_shift" = some (.ref (He.ga K "is_shift"))
  g_is_size : mg "is_size" = some (.ref (He.ga K "is_size"))
  g_is_sort : mg "is_sort" = some (.ref (He.ga K "is_sort"))
  g_is_step : mg "is_step" = some (.ref (He.ga K "is_step"))
  g_is_strength : mg "is_strength" = some (.ref (He.ga K "is_strength"))
  g_is_whole : mg "is_whole" = some (.ref (He.ga K "is_whole"))
  g_is_within : mg "is_within" = some (.ref (He.ga K "is_within"))
  v_DAY : ∃ t, mg "DAY" = some (.int (24) t)
  v_LONGEST_NAME : ∃ t, mg "LONGEST_NAME" = some (.int (8) t)
  v_LONGEST_ROW : ∃ t, mg "LONGEST_ROW" = some (.int (200) t)
  v_MOST_MOMENT : ∃ t, mg "MOST_MOMENT" = some (.int (10 ^ 30) t)
  v_MOST_ROOM : ∃ t, mg "MOST_ROOM" = some (.int (10 ^ 12) t)
  v_MOST_STRENGTH : ∃ t, mg "MOST_STRENGTH" = some (.int (10 ^ 9) t)
  v_LETTERS : ∃ t, mg "LETTERS" = some (.str "abcdefghijklmnopqrstuvwxyz" t)
  sys_ok : SysOk K
section
variable {P : Program} {w : PySem.World} {K : PySem.W.Frag} {mg : Str → Option Value} {base : Heap}
theorem b_l_take_2 {f : Addr} {fd : FuncData} (F : Fd_l_take K f fd) : Bd K fd ["_law_bag_here", "_law_many"] 2 [] gvAll := Bd.all (F.bindsN fun _ _ _ _ _ _ us hl => match us, hl with | [_, _], _ => rfl) rfl
theorem b_l_number_1 {f : Addr} {fd : FuncData} (F : Fd_l_number K f fd) : Bd K fd ["_law_bag_here"] 1 [] gvAll := Bd.all (F.bindsN fun _ _ _ _ _ _ us hl => match us, hl with | [_], _ => rfl) rfl
theorem b_l_some_text_3 {f : Addr} {fd : FuncData} (F : Fd_l_some_text K f fd) : Bd K fd ["_law_bag_here", "_law_signs", "_law_most"] 3 [] gvAll := Bd.all (F.bindsN fun _ _ _ _ _ _ us hl => match us, hl with | [_, _, _], _ => rfl) rfl
theorem b_l_some_hours_1 {f : Addr} {fd : FuncData} (F : Fd_l_some_hours K f fd) : Bd K fd ["_law_bag_here"] 1 [] gvAll := Bd.all (F.bindsN fun _ _ _ _ _ _ us hl => match us, hl with | [_], _ => rfl) rfl
theorem b_l_some_step_1 {f : Addr} {fd : FuncData} (F : Fd_l_some_step K f fd) : Bd K fd ["_law_bag_here"] 1 [] gvAll := Bd.all (F.bindsN fun _ _ _ _ _ _ us hl => match us, hl with | [_], _ => rfl) rfl
theorem b_is_whole_1 {f : Addr} {fd : FuncData} (F : Fd_is_whole K f fd) : Bd K fd ["thing"] 1 [] gvAll := Bd.all (F.bindsN fun _ _ _ _ _ _ us hl => match us, hl with | [_], _ => rfl) rfl
theorem b_is_within_3 {f : Addr} {fd : FuncData} (F : Fd_is_within K f fd) : Bd K fd ["thing", "least", "most"] 3 [] gvAll := Bd.all (F.bindsN fun _ _ _ _ _ _ us hl => match us, hl with | [_, _, _], _ => rfl) rfl
theorem b_is_size_1 {f : Addr} {fd : FuncData} (F : Fd_is_size K f fd) : Bd K fd ["thing"] 1 [] gvAll := Bd.all (F.bindsN fun _ _ _ _ _ _ us hl => match us, hl with | [_], _ => rfl) rfl
theorem b_is_strength_1 {f : Addr} {fd : FuncData} (F : Fd_is_strength K f fd) : Bd K fd ["thing"] 1 [] gvAll := Bd.all (F.bindsN fun _ _ _ _ _ _ us hl => match us, hl with | [_], _ => rfl) rfl
theorem b_is_sort_1 {f : Addr} {fd : FuncData} (F : Fd_is_sort K f fd) : Bd K fd ["thing"] 1 [] gvAll := Bd.all (F.bindsN fun _ _ _ _ _ _ us hl => match us, hl with | [_], _ => rfl) rfl
theorem b_is_name_1 {f : Addr} {fd : FuncData} (F : Fd_is_name K f fd) : Bd K fd ["thing"] 1 [] gvAll := Bd.all (F.bindsN fun _ _ _ _ _ _ us hl => match us, hl with | [_], _ => rfl) rfl
theorem b_is_moment_1 {f : Addr} {fd : FuncData} (F : Fd_is_moment K f fd) : Bd K fd ["thing"] 1 [] gvAll := Bd.all (F.bindsN fun _ _ _ _ _ _ us hl => match us, hl with | [_], _ => rfl) rfl
theorem b_is_room_1 {f : Addr} {fd : FuncData} (F : Fd_is_room K f fd) : Bd K fd ["thing"] 1 [] gvAll := Bd.all (F.bindsN fun _ _ _ _ _ _ us hl => match us, hl with | [_], _ => rfl) rfl
theorem b_is_shift_1 {f : Addr} {fd : FuncData} (F : Fd_is_shift K f fd) : Bd K fd ["thing"] 1 [] gvAll := Bd.all (F.bindsN fun _ _ _ _ _ _ us hl => match us, hl with | [_], _ => rfl) rfl
theorem b_is_step_1 {f : Addr} {fd : FuncData} (F : Fd_is_step K f fd) : Bd K fd ["thing"] 1 [] gvAll := Bd.all (F.bindsN fun _ _ _ _ _ _ us hl => match us, hl with | [_], _ => rfl) rfl
theorem b_is_row_1 {f : Addr} {fd : FuncData} (F : Fd_is_row K f fd) : Bd K fd ["thing"] 1 [] gvAll := Bd.all (F.bindsN fun _ _ _ _ _ _ us hl => match us, hl with | [_], _ => rfl) rfl
theorem b_are_hours_1 {f : Addr} {fd : FuncData} (F : Fd_are_hours K f fd) : Bd K fd ["thing"] 1 [] gvAll := Bd.all (F.bindsN fun _ _ _ _ _ _ us hl => match us, hl with | [_], _ => rfl) rfl
theorem b_l_within_3 {f : Addr} {fd : FuncData} (F : Fd_l_within K f fd) : Bd K fd ["_law_thing_here", "_law_low", "_law_high"] 3 [] gvAll := Bd.all (F.bindsN fun _ _ _ _ _ _ us hl => match us, hl with | [_, _, _], _ => rfl) rfl
theorem b_l_is_name_1 {f : Addr} {fd : FuncData} (F : Fd_l_is_name K f fd) : Bd K fd ["_law_thing_here"] 1 [] gvAll := Bd.all (F.bindsN fun _ _ _ _ _ _ us hl => match us, hl with | [_], _ => rfl) rfl
theorem b_l_is_step_1 {f : Addr} {fd : FuncData} (F : Fd_l_is_step K f fd) : Bd K fd ["_law_thing_here"] 1 [] gvAll := Bd.all (F.bindsN fun _ _ _ _ _ _ us hl => match us, hl with | [_], _ => rfl) rfl
theorem b_l_is_row_1 {f : Addr} {fd : FuncData} (F : Fd_l_is_row K f fd) : Bd K fd ["_law_thing_here"] 1 [] gvAll := Bd.all (F.bindsN fun _ _ _ _ _ _ us hl => match us, hl with | [_], _ => rfl) rfl
theorem b_l_are_hours_1 {f : Addr} {fd : FuncData} (F : Fd_l_are_hours K f fd) : Bd K fd ["_law_thing_here"] 1 [] gvAll := Bd.all (F.bindsN fun _ _ _ _ _ _ us hl => match us, hl with | [_], _ => rfl) rfl
theorem b_l_bag_1 {f : Addr} {fd : FuncData} (F : Fd_l_bag K f fd) : Bd K fd ["_law_script"] 1 [] gvAll := Bd.all (F.bindsN fun _ _ _ _ _ _ us hl => match us, hl with | [_], _ => rfl) rfl
theorem b_l_thing_1 {f : Addr} {fd : FuncData} (F : Fd_l_thing K f fd) : Bd K fd ["_law_bag_here"] 1 [] gvAll := Bd.all (F.bindsN fun _ _ _ _ _ _ us hl => match us, hl with | [_], _ => rfl) rfl
theorem b_l_asked_1 {f : Addr} {fd : FuncData} (F : Fd_l_asked K f fd) : Bd K fd ["_law_thing_here"] 1 [] gvAll := Bd.all (F.bindsN fun _ _ _ _ _ _ us hl => match us, hl with | [_], _ => rfl) rfl
theorem b_l_due_1 {f : Addr} {fd : FuncData} (F : Fd_l_due K f fd) : Bd K fd ["_law_thing_here"] 1 [] gvAll := Bd.all (F.bindsN fun _ _ _ _ _ _ us hl => match us, hl with | [_], _ => rfl) rfl
theorem ok_l_bag (T : T K mg) {f : Addr} {fd : FuncData} (F : Fd_l_bag K f fd) : FnG P w K mg base CX0 1 f fd ["_law_script"] (spBag K) :=
  FnG.of F sc_l_bag spBag_len fun cdv A outer s H vs Q E hr hG h => ⟨t_l_bag K E,
    (pss_one (ps_ret (pe_lst (pa_cons pe_int (pa_cons pe_int (pa_cons pe_int (pa_cons (pe_lc (own := [(("_law_cell" : Str), 1)]) (by rfl) sc_l_bag.nd (pi_U (pe_slice sl_U (pv 0) po_none (po_some pe_int))) (blkOk_by (own := [(("_law_cell" : Str), 1)]) (N := [("_law_script" : Str), ("_law_cell" : Str)]) (sc := defScope s_l_bag) (by decide +kernel)) (fun _ _ _ _ _ => pg_name (i := 1) sc_l_bag.nd rfl (by first | exact Or.inl rfl | exact Or.inr rfl)) (fun _ _ _ _ _ => pts_nil) (fun _ _ _ _ _ => (pe_callB cb_abs (by rfl) T.b_abs (by decide +kernel) (pa_cons (pv 1) pa_nil)))) pa_nil))))))),
    pure_l_bag  h⟩
theorem len_l_take : ∀ vs H Q E, (liftB K F_l_take) vs H Q E → vs.length = 2 := liftB_len fun B ds Φ X h => by unfold F_l_take at h; first | (obtain ⟨_, e, _⟩ := h; rw [e]; rfl) | (obtain ⟨_, _, e, _⟩ := h; rw [e]; rfl) | (obtain ⟨_, _, _, e, _⟩ := h; rw [e]; rfl) | (obtain ⟨_, _, _, _, e, _⟩ := h; rw [e]; rfl) | (obtain ⟨_, _, _, _, _, e, _⟩ := h; rw [e]; rfl) | (obtain ⟨_, _, _, _, _, _, e, _⟩ := h; rw [e]; rfl) | (obtain ⟨_, _, _, _, _, _, _, e, _⟩ := h; rw [e]; rfl) | (obtain ⟨_, _, _, _, _, _, _, _, e, _⟩ := h; rw [e]; rfl) | (obtain ⟨e, _⟩ := h; rw [e]; rfl)
theorem ok_l_take (T : T K mg) {f : Addr} {fd : FuncData} (F : Fd_l_take K f fd) : FnG P w K mg base CX0 1 f fd ["_law_bag_here", "_law_many"] (liftB K F_l_take) :=
  FnG.of F sc_l_take len_l_take fun cdv A outer s H vs Q E hr hG h => ⟨t_l_take K E,
    (pss_cons (ps_if (pt_cmpR (op_eqU hr.units) (pe_ix ix_seq (pv 0) pe_int (fun _ _ => rfl)) pe_int (nomark _))
     (pss_cons (ps_set (i := 2) sc_l_take.nd rfl (by first | exact Or.inl rfl | exact Or.inr rfl) pe_int)
      (pss_cons (ps_if (pt_cmpR op_ltU (pe_ix ix_seq (pv 0) pe_int (fun _ _ => rfl)) (pe_callB cb_len (by rfl) T.b_len (by decide +kernel) (pa_cons (pe_ix ix_seq (pv 0) pe_int (fun _ _ => rfl)) pa_nil)) (nomark _))
       (pss_one (ps_set (i := 2) sc_l_take.nd rfl (by first | exact Or.inl rfl | exact Or.inr rfl) (pe_ix ix_seq (pe_ix ix_seq (pv 0) pe_int (fun _ _ => rfl)) (pe_ix ix_seq (pv 0) pe_int (fun _ _ => rfl)) (fun _ _ => rfl))))
       pss_nil)
      (pss_cons (ps_augS (pv 0) pe_int get_list pe_int ip_add set_list)
      (pss_cons (ps_if (pt_cmpR op_geU (pv 2) pe_int (nomark _))
       (pss_one (ps_asg (pv 2) (pg_sub (pv 0) pe_int set_list)))
       pss_nil)
      (pss_one (ps_asg (pe_op op_modU (pe_op op_addU (pe_op op_addU (pe_op op_mulU (pe_ix ix_seq (pv 0) pe_int (fun _ _ => rfl)) pe_int) (pe_op op_modU (pv 2) pe_int)) (pe_op op_mulU pe_int (pe_ix ix_seq (pv 0) pe_int (fun _ _ => rfl)))) pe_int) (pg_sub (pv 0) pe_int set_list)))))))
     pss_nil)
    (pss_cons (ps_if (pt_cmpR op_gtU (pe_ix ix_seq (pv 0) pe_int (fun _ _ => rfl)) pe_int (nomark _))
     (pss_cons (ps_set (i := 3) sc_l_take.nd rfl (by first | exact Or.inl rfl | exact Or.inr rfl) (pe_op op_modU (pe_ix ix_seq (pv 0) pe_int (fun _ _ => rfl)) (pv 1)))
      (pss_cons (ps_asg (pe_op op_divU (pe_ix ix_seq (pv 0) pe_int (fun _ _ => rfl)) (pv 1)) (pg_sub (pv 0) pe_int set_list))
      (pss_one (ps_ret (pv 3)))))
     pss_nil)
    (pss_cons (ps_set (i := 4) sc_l_take.nd rfl (by first | exact Or.inl rfl | exact Or.inr rfl) (pe_op op_modU (pe_op op_mulU (pe_op op_addU (pe_ix ix_seq (pv 0) pe_int (fun _ _ => rfl)) pe_int) pe_int) pe_int))
    (pss_cons (ps_set (i := 5) sc_l_take.nd rfl (by first | exact Or.inl rfl | exact Or.inr rfl) (pe_op op_modU (pe_op op_mulU (pe_op op_modU (pe_op op_mulU (pv 4) (pv 4)) pe_int) pe_int) pe_int))
    (pss_cons (ps_if (pt_cmpR op_gtU (pv 1) pe_int (nomark _))
     (pss_one (ps_ret (pe_op op_modU (pe_op op_addU (pe_op op_mulU (pv 5) pe_int) (pv 4)) (pv 1))))
     pss_nil)
    (pss_one (ps_ret (pe_op op_modU (pe_op op_divU (pv 5) pe_int) (pv 1))))))))),
    pure_l_take  h⟩
theorem len_l_number : ∀ vs H Q E, (lift K (F_l_number K)) vs H Q E → vs.length = 1 := lift_len fun ds w Φ X h => by unfold F_l_number at h; first | (obtain ⟨_, e, _⟩ := h; rw [e]; rfl) | (obtain ⟨_, _, e, _⟩ := h; rw [e]; rfl) | (obtain ⟨_, _, _, e, _⟩ := h; rw [e]; rfl) | (obtain ⟨_, _, _, _, e, _⟩ := h; rw [e]; rfl) | (obtain ⟨_, _, _, _, _, e, _⟩ := h; rw [e]; rfl) | (obtain ⟨_, _, _, _, _, _, e, _⟩ := h; rw [e]; rfl) | (obtain ⟨_, _, _, _, _, _, _, e, _⟩ := h; rw [e]; rfl) | (obtain ⟨_, _, _, _, _, _, _, _, e, _⟩ := h; rw [e]; rfl) | (obtain ⟨e, _⟩ := h; rw [e]; rfl)
theorem ok_l_number (T : T K mg) {fd_l_take : FuncData} (G_l_take : Fd_l_take K (He.ga K "_law_take") fd_l_take ∧ FnG P w K mg base CX0 1 (He.ga K "_law_take") fd_l_take ["_law_bag_here", "_law_many"] (liftB K F_l_take)) {f : Addr} {fd : FuncData} (F : Fd_l_number K f fd) : FnG P w K mg base CX0 2 f fd ["_law_bag_here"] (lift K (F_l_number K)) :=
  FnG.of F sc_l_number len_l_number fun cdv A outer s H vs Q E hr hG h => ⟨t_l_number K E,
    (pss_cons (ps_set (i := 1) sc_l_number.nd rfl (by first | exact Or.inl rfl | exact Or.inr rfl) (pe_ix ix_seq (pe_lst (pa_cons pe_int (pa_cons pe_int (pa_cons pe_int (pa_cons pe_int (pa_cons pe_int (pa_cons pe_int (pa_cons pe_int (pa_cons (pe_op op_powU pe_int pe_int) (pa_cons (pe_op op_powU pe_int pe_int) (pa_cons (pe_op op_powU pe_int pe_int) (pa_cons (pe_un un_negU (pe_op op_powU pe_int pe_int)) pa_nil)))))))))))) (pg_call (G_l_take.2.mono (by decide)) hr hG (by rfl) T.g_l_take G_l_take.1.kp (b_l_take_2 G_l_take.1) passE (pa_cons (pv 0) (pa_cons pe_int pa_nil))) (fun _ _ => rfl)))
    (pss_cons (ps_set (i := 2) sc_l_number.nd rfl (by first | exact Or.inl rfl | exact Or.inr rfl) (pe_ix ix_seq (pe_lst (pa_cons pe_int (pa_cons pe_int (pa_cons (pe_un un_negU pe_int) (pa_cons pe_int (pa_cons (pe_un un_negU pe_int) (pa_cons (pg_call (G_l_take.2.mono (by decide)) hr hG (by rfl) T.g_l_take G_l_take.1.kp (b_l_take_2 G_l_take.1) passE (pa_cons (pv 0) (pa_cons pe_int pa_nil))) (pa_cons (pe_op op_powU pe_int pe_int) (pa_cons (pe_un un_negU (pe_op op_powU pe_int pe_int)) pa_nil))))))))) (pg_call (G_l_take.2.mono (by decide)) hr hG (by rfl) T.g_l_take G_l_take.1.kp (b_l_take_2 G_l_take.1) passE (pa_cons (pv 0) (pa_cons pe_int pa_nil))) (fun _ _ => rfl)))
    (pss_one (ps_ret (pe_op op_addU (pv 1) (pv 2)))))),
    pure_l_number  h⟩
theorem len_l_some_text : ∀ vs H Q E, (lift K (F_l_some_text K)) vs H Q E → vs.length = 3 := lift_len fun ds w Φ X h => by unfold F_l_some_text at h; first | (obtain ⟨_, e, _⟩ := h; rw [e]; rfl) | (obtain ⟨_, _, e, _⟩ := h; rw [e]; rfl) | (obtain ⟨_, _, _, e, _⟩ := h; rw [e]; rfl) | (obtain ⟨_, _, _, _, e, _⟩ := h; rw [e]; rfl) | (obtain ⟨_, _, _, _, _, e, _⟩ := h; rw [e]; rfl) | (obtain ⟨_, _, _, _, _, _, e, _⟩ := h; rw [e]; rfl) | (obtain ⟨_, _, _, _, _, _, _, e, _⟩ := h; rw [e]; rfl) | (obtain ⟨_, _, _, _, _, _, _, _, e, _⟩ := h; rw [e]; rfl) | (obtain ⟨e, _⟩ := h; rw [e]; rfl)
theorem ok_l_some_text (T : T K mg) {fd_l_take : FuncData} (G_l_take : Fd_l_take K (He.ga K "_law_take") fd_l_take ∧ FnG P w K mg base CX0 1 (He.ga K "_law_take") fd_l_take ["_law_bag_here", "_law_many"] (liftB K F_l_take)) {f : Addr} {fd : FuncData} (F : Fd_l_some_text K f fd) : FnG P w K mg base CX0 2 f fd ["_law_bag_here", "_law_signs", "_law_most"] (lift K (F_l_some_text K)) :=
  FnG.of F sc_l_some_text len_l_some_text fun cdv A outer s H vs Q E hr hG h => ⟨t_l_some_text K E,
    (pss_cons (ps_set (i := 3) sc_l_some_text.nd rfl (by first | exact Or.inl rfl | exact Or.inr rfl) (pe_ix ix_seq (pe_lst (pa_cons (pg_call (G_l_take.2.mono (by decide)) hr hG (by rfl) T.g_l_take G_l_take.1.kp (b_l_take_2 G_l_take.1) passE (pa_cons (pv 0) (pa_cons pe_int pa_nil))) (pa_cons (pv 2) (pa_cons (pe_op op_addU (pv 2) pe_int) (pa_cons (pe_op op_addU (pv 2) pe_int) (pa_cons (pe_op op_subU (pv 2) pe_int) pa_nil)))))) (pg_call (G_l_take.2.mono (by decide)) hr hG (by rfl) T.g_l_take G_l_take.1.kp (b_l_take_2 G_l_take.1) passE (pa_cons (pv 0) (pa_cons pe_int pa_nil))) (fun _ _ => rfl)))
    (pss_cons (ps_set (i := 4) sc_l_some_text.nd rfl (by first | exact Or.inl rfl | exact Or.inr rfl) (pe_bm PySem.F.plainAttrs_str PySem.F.slot_str_join PySem.F.type_str_join mt_joinU pe_str (pa_cons (pe_lc (own := [(("_law_k" : Str), 5)]) (by rfl) sc_l_some_text.nd (pi_range1 (by rfl) T.b_range (pa_cons (pv 3) pa_nil)) (blkOk_by (own := [(("_law_k" : Str), 5)]) (N := [("_law_bag_here" : Str), ("_law_signs" : Str), ("_law_most" : Str), ("_law_many" : Str), ("_law_text" : Str), ("_law_k" : Str), ("_law_others" : Str), ("_law_at" : Str)]) (sc := defScope s_l_some_text) (by decide +kernel)) (fun _ _ _ _ _ => pg_name (i := 5) sc_l_some_text.nd rfl (by first | exact Or.inl rfl | exact Or.inr rfl)) (fun _ _ _ _ _ => pts_nil) (fun _ _ _ _ _ => (pe_ix ix_seq (pv 1) (pg_call (G_l_take.2.mono (by decide)) hr hG (by rfl) T.g_l_take G_l_take.1.kp (b_l_take_2 G_l_take.1) passE (pa_cons (pv 0) (pa_cons (pe_callB cb_len (by rfl) T.b_len (by decide +kernel) (pa_cons (pv 1) pa_nil)) pa_nil))) (fun _ _ => rfl)))) pa_nil)))
    (pss_cons (ps_set (i := 6) sc_l_some_text.nd rfl (by first | exact Or.inl rfl | exact Or.inr rfl) pe_str)
    (pss_cons (ps_if (PW.pt (pw_or (pt_cmpR (op_eqU hr.units) (pv 4) pe_str (nomark _)) (pw_or1 (pt_cmpR op_gtU (pg_call (G_l_take.2.mono (by decide)) hr hG (by rfl) T.g_l_take G_l_take.1.kp (b_l_take_2 G_l_take.1) passE (pa_cons (pv 0) (pa_cons pe_int pa_nil))) pe_int (nomark _)))))
     (pss_one (ps_ret (pv 4)))
     pss_nil)
    (pss_cons (ps_set (i := 7) sc_l_some_text.nd rfl (by first | exact Or.inl rfl | exact Or.inr rfl) (pg_call (G_l_take.2.mono (by decide)) hr hG (by rfl) T.g_l_take G_l_take.1.kp (b_l_take_2 G_l_take.1) passE (pa_cons (pv 0) (pa_cons (pv 3) pa_nil))))
    (pss_one (ps_ret (pe_op op_addU (pe_op op_addU (pe_slice sl_U (pv 4) po_none (po_some (pv 7))) (pe_ix ix_seq (pv 6) (pg_call (G_l_take.2.mono (by decide)) hr hG (by rfl) T.g_l_take G_l_take.1.kp (b_l_take_2 G_l_take.1) passE (pa_cons (pv 0) (pa_cons (pe_callB cb_len (by rfl) T.b_len (by decide +kernel) (pa_cons (pv 6) pa_nil)) pa_nil))) (fun _ _ => rfl))) (pe_slice sl_U (pv 4) (po_some (pe_op op_addU (pv 7) pe_int)) po_none))))))))),
    pure_l_some_text  h⟩
theorem len_l_some_hours : ∀ vs H Q E, (lift K (F_l_some_hours K)) vs H Q E → vs.length = 1 := lift_len fun ds w Φ X h => by unfold F_l_some_hours at h; first | (obtain ⟨_, e, _⟩ := h; rw [e]; rfl) | (obtain ⟨_, _, e, _⟩ := h; rw [e]; rfl) | (obtain ⟨_, _, _, e, _⟩ := h; rw [e]; rfl) | (obtain ⟨_, _, _, _, e, _⟩ := h; rw [e]; rfl) | (obtain ⟨_, _, _, _, _, e, _⟩ := h; rw [e]; rfl) | (obtain ⟨_, _, _, _, _, _, e, _⟩ := h; rw [e]; rfl) | (obtain ⟨_, _, _, _, _, _, _, e, _⟩ := h; rw [e]; rfl) | (obtain ⟨_, _, _, _, _, _, _, _, e, _⟩ := h; rw [e]; rfl) | (obtain ⟨e, _⟩ := h; rw [e]; rfl)
theorem ok_l_some_hours (T : T K mg) {fd_l_take : FuncData} (G_l_take : Fd_l_take K (He.ga K "_law_take") fd_l_take ∧ FnG P w K mg base CX0 1 (He.ga K "_law_take") fd_l_take ["_law_bag_here", "_law_many"] (liftB K F_l_take)) {f : Addr} {fd : FuncData} (F : Fd_l_some_hours K f fd) : FnG P w K mg base CX0 2 f fd ["_law_bag_here"] (lift K (F_l_some_hours K)) :=
  FnG.of F sc_l_some_hours len_l_some_hours fun cdv A outer s H vs Q E hr hG h => ⟨t_l_some_hours K E,
    (pss_cons (ps_set (i := 1) sc_l_some_hours.nd rfl (Or.inr rfl) (pe_lc (own := [(("_law_k" : Str), 2)]) (by rfl) sc_l_some_hours.nd (pi_range1 (by rfl) T.b_range (pa_cons (pe_ix ix_seq (pe_lst (pa_cons pe_int (pa_cons pe_int (pa_cons (pg_call (G_l_take.2.mono (by decide)) hr hG (by rfl) T.g_l_take G_l_take.1.kp (b_l_take_2 G_l_take.1) passE (pa_cons (pv 0) (pa_cons pe_int pa_nil))) (pa_cons pe_int pa_nil))))) (pg_call (G_l_take.2.mono (by decide)) hr hG (by rfl) T.g_l_take G_l_take.1.kp (b_l_take_2 G_l_take.1) passE (pa_cons (pv 0) (pa_cons pe_int pa_nil))) (fun _ _ => rfl)) pa_nil)) (blkOk_by (own := [(("_law_k" : Str), 2)]) (N := [("_law_bag_here" : Str), ("_law_hours" : Str), ("_law_k" : Str), ("_law_hour" : Str)]) (sc := defScope s_l_some_hours) (by decide +kernel)) (fun _ _ _ _ _ => pg_name (i := 2) sc_l_some_hours.nd rfl (by first | exact Or.inl rfl | exact Or.inr rfl)) (fun _ _ _ _ _ => pts_nil) (fun _ _ _ _ _ => (pg_call (G_l_take.2.mono (by decide)) hr hG (by rfl) T.g_l_take G_l_take.1.kp (b_l_take_2 G_l_take.1) passE (pa_cons (pv 0) (pa_cons pe_int pa_nil))))))
    (pss_cons (ps_if (pt_cmpR op_gtU (pg_call (G_l_take.2.mono (by decide)) hr hG (by rfl) T.g_l_take G_l_take.1.kp (b_l_take_2 G_l_take.1) passE (pa_cons (pv 0) (pa_cons pe_int pa_nil))) pe_int (nomark _))
     (pss_one (ps_set (i := 1) sc_l_some_hours.nd rfl (Or.inr rfl) (pe_lc (own := [(("_law_hour" : Str), 3)]) (by rfl) sc_l_some_hours.nd (pi_range1 (by rfl) T.b_range (pa_cons pe_int pa_nil)) (blkOk_by (own := [(("_law_hour" : Str), 3)]) (N := [("_law_bag_here" : Str), ("_law_hours" : Str), ("_law_k" : Str), ("_law_hour" : Str)]) (sc := defScope s_l_some_hours) (by decide +kernel)) (fun _ _ _ _ _ => pg_name (i := 3) sc_l_some_hours.nd rfl (by first | exact Or.inl rfl | exact Or.inr rfl)) (fun _ _ _ _ _ => (pts_one (pt_cmpR op_inU (pv 3) (pv 1) (by with_unfolding_all rfl)))) (fun _ _ _ _ _ => (pv 3)))))
     pss_nil)
    (pss_cons (ps_if (PW.pt (pw_and (pt_cmpR (op_neU hr.units) (pv 1) (pe_lst pa_nil) (nomark _)) (pw_and1 (pt_cmpR (op_eqU hr.units) (pg_call (G_l_take.2.mono (by decide)) hr hG (by rfl) T.g_l_take G_l_take.1.kp (b_l_take_2 G_l_take.1) passE (pa_cons (pv 0) (pa_cons pe_int pa_nil))) pe_int (nomark _)))))
     (pss_one (ps_asg (pe_ix ix_seq (pe_lst (pa_cons pe_int (pa_cons (pe_un un_negU pe_int) (pa_cons pe_bl (pa_cons pe_non (pa_cons pe_str (pa_cons pe_int (pa_cons pe_int pa_nil)))))))) (pg_call (G_l_take.2.mono (by decide)) hr hG (by rfl) T.g_l_take G_l_take.1.kp (b_l_take_2 G_l_take.1) passE (pa_cons (pv 0) (pa_cons pe_int pa_nil))) (fun _ _ => rfl)) (pg_sub (pv 1) (pg_call (G_l_take.2.mono (by decide)) hr hG (by rfl) T.g_l_take G_l_take.1.kp (b_l_take_2 G_l_take.1) passE (pa_cons (pv 0) (pa_cons (pe_callB cb_len (by rfl) T.b_len (by decide +kernel) (pa_cons (pv 1) pa_nil)) pa_nil))) set_list)))
     pss_nil)
    (pss_one (ps_ret (pe_ix ix_seq (pe_lst (pa_cons (pe_callTy ct_tuple (by rfl) T.b_tuple (by decide +kernel) (pa_cons (pv 1) pa_nil)) (pa_cons (pe_callTy ct_tuple (by rfl) T.b_tuple (by decide +kernel) (pa_cons (pv 1) pa_nil)) (pa_cons (pe_callTy ct_tuple (by rfl) T.b_tuple (by decide +kernel) (pa_cons (pv 1) pa_nil)) (pa_cons (pv 1) pa_nil))))) (pg_call (G_l_take.2.mono (by decide)) hr hG (by rfl) T.g_l_take G_l_take.1.kp (b_l_take_2 G_l_take.1) passE (pa_cons (pv 0) (pa_cons pe_int pa_nil))) (fun _ _ => rfl))))))),
    pure_l_some_hours  h⟩
theorem len_l_some_step : ∀ vs H Q E, (lift K (F_l_some_step K)) vs H Q E → vs.length = 1 := lift_len fun ds w Φ X h => by unfold F_l_some_step at h; first | (obtain ⟨_, e, _⟩ := h; rw [e]; rfl) | (obtain ⟨_, _, e, _⟩ := h; rw [e]; rfl) | (obtain ⟨_, _, _, e, _⟩ := h; rw [e]; rfl) | (obtain ⟨_, _, _, _, e, _⟩ := h; rw [e]; rfl) | (obtain ⟨_, _, _, _, _, e, _⟩ := h; rw [e]; rfl) | (obtain ⟨_, _, _, _, _, _, e, _⟩ := h; rw [e]; rfl) | (obtain ⟨_, _, _, _, _, _, _, e, _⟩ := h; rw [e]; rfl) | (obtain ⟨_, _, _, _, _, _, _, _, e, _⟩ := h; rw [e]; rfl) | (obtain ⟨e, _⟩ := h; rw [e]; rfl)
theorem ok_l_some_step (T : T K mg) {fd_l_number : FuncData} (G_l_number : Fd_l_number K (He.ga K "_law_number") fd_l_number ∧ FnG P w K mg base CX0 2 (He.ga K "_law_number") fd_l_number ["_law_bag_here"] (lift K (F_l_number K))) {fd_l_take : FuncData} (G_l_take : Fd_l_take K (He.ga K "_law_take") fd_l_take ∧ FnG P w K mg base CX0 1 (He.ga K "_law_take") fd_l_take ["_law_bag_here", "_law_many"] (liftB K F_l_take)) {f : Addr} {fd : FuncData} (F : Fd_l_some_step K f fd) : FnG P w K mg base CX0 3 f fd ["_law_bag_here"] (lift K (F_l_some_step K)) :=
  FnG.of F sc_l_some_step len_l_some_step fun cdv A outer s H vs Q E hr hG h => ⟨t_l_some_step K E,
    (pss_cons (ps_set (i := 1) sc_l_some_step.nd rfl (by first | exact Or.inl rfl | exact Or.inr rfl) (pe_tup (pa_cons (pe_ix ix_seq (pe_lst (pa_cons (pe_op op_addU pe_int (pg_call (G_l_take.2.mono (by decide)) hr hG (by rfl) T.g_l_take G_l_take.1.kp (b_l_take_2 G_l_take.1) passE (pa_cons (pv 0) (pa_cons pe_int pa_nil)))) (pa_cons (pg_call (G_l_number.2.mono (by decide)) hr hG (by rfl) T.g_l_number G_l_number.1.kp (b_l_number_1 G_l_number.1) passE (pa_cons (pv 0) pa_nil)) pa_nil))) (pg_call (G_l_take.2.mono (by decide)) hr hG (by rfl) T.g_l_take G_l_take.1.kp (b_l_take_2 G_l_take.1) passE (pa_cons (pv 0) (pa_cons pe_int pa_nil))) (fun _ _ => rfl)) (pa_cons (pg_call (G_l_number.2.mono (by decide)) hr hG (by rfl) T.g_l_number G_l_number.1.kp (b_l_number_1 G_l_number.1) passE (pa_cons (pv 0) pa_nil)) pa_nil))))
    (pss_cons (ps_set (i := 2) sc_l_some_step.nd rfl (by first | exact Or.inl rfl | exact Or.inr rfl) (pe_lst (pa_cons (pv 1) (pa_cons (pv 1) (pa_cons (pe_op op_addU (pv 1) (pe_tup (pa_cons pe_int pa_nil))) (pa_cons (pe_slice sl_U (pv 1) po_none (po_some pe_int)) (pa_cons (pe_callTy ct_list (by rfl) T.b_list (by decide +kernel) (pa_cons (pv 1) pa_nil)) (pa_cons (pe_tup (pa_cons (pe_ix ix_seq (pv 1) pe_int (fun _ _ => rfl)) (pa_cons (pe_ix ix_seq (pv 1) pe_int (fun _ _ => rfl)) pa_nil))) pa_nil))))))))
    (pss_one (ps_ret (pe_ix ix_seq (pe_op op_addU (pv 2) (pe_lst (pa_cons (pe_tup (pa_cons pe_bl (pa_cons pe_int pa_nil))) (pa_cons (pe_tup (pa_cons pe_int (pa_cons pe_non pa_nil))) (pa_cons (pe_tup (pa_cons (pv 1) pa_nil)) (pa_cons (pe_tup pa_nil) (pa_cons (pe_tup (pa_cons pe_int (pa_cons pe_bl pa_nil))) (pa_cons (pe_tup (pa_cons pe_int (pa_cons pe_bl pa_nil))) pa_nil)))))))) (pg_call (G_l_take.2.mono (by decide)) hr hG (by rfl) T.g_l_take G_l_take.1.kp (b_l_take_2 G_l_take.1) passE (pa_cons (pv 0) (pa_cons pe_int pa_nil))) (fun _ _ => rfl)))))),
    pure_l_some_step  h⟩
theorem len_l_thing : ∀ vs H Q E, (lift K (F_l_thing K)) vs H Q E → vs.length = 1 := lift_len fun ds w Φ X h => by unfold F_l_thing at h; first | (obtain ⟨_, e, _⟩ := h; rw [e]; rfl) | (obtain ⟨_, _, e, _⟩ := h; rw [e]; rfl) | (obtain ⟨_, _, _, e, _⟩ := h; rw [e]; rfl) | (obtain ⟨_, _, _, _, e, _⟩ := h; rw [e]; rfl) | (obtain ⟨_, _, _, _, _, e, _⟩ := h; rw [e]; rfl) | (obtain ⟨_, _, _, _, _, _, e, _⟩ := h; rw [e]; rfl) | (obtain ⟨_, _, _, _, _, _, _, e, _⟩ := h; rw [e]; rfl) | (obtain ⟨_, _, _, _, _, _, _, _, e, _⟩ := h; rw [e]; rfl) | (obtain ⟨e, _⟩ := h; rw [e]; rfl)
theorem ok_l_thing (T : T K mg) {fd_l_take : FuncData} (G_l_take : Fd_l_take K (He.ga K "_law_take") fd_l_take ∧ FnG P w K mg base CX0 1 (He.ga K "_law_take") fd_l_take ["_law_bag_here", "_law_many"] (liftB K F_l_take)) {fd_l_number : FuncData} (G_l_number : Fd_l_number K (He.ga K "_law_number") fd_l_number ∧ FnG P w K mg base CX0 2 (He.ga K "_law_number") fd_l_number ["_law_bag_here"] (lift K (F_l_number K))) {fd_l_some_text : FuncData} (G_l_some_text : Fd_l_some_text K (He.ga K "_law_some_text") fd_l_some_text ∧ FnG P w K mg base CX0 2 (He.ga K "_law_some_text") fd_l_some_text ["_law_bag_here", "_law_signs", "_law_most"] (lift K (F_l_some_text K))) {fd_l_some_hours : FuncData} (G_l_some_hours : Fd_l_some_hours K (He.ga K "_law_some_hours") fd_l_some_hours ∧ FnG P w K mg base CX0 2 (He.ga K "_law_some_hours") fd_l_some_hours ["_law_bag_here"] (lift K (F_l_some_hours K))) {fd_l_some_step : FuncData} (G_l_some_step : Fd_l_some_step K (He.ga K "_law_some_step") fd_l_some_step ∧ FnG P w K mg base CX0 3 (He.ga K "_law_some_step") fd_l_some_step ["_law_bag_here"] (lift K (F_l_some_step K))) {f : Addr} {fd : FuncData} (F : Fd_l_thing K f fd) : FnG P w K mg base CX0 4 f fd ["_law_bag_here"] (lift K (F_l_thing K)) :=
  FnG.of F sc_l_thing len_l_thing fun cdv A outer s H vs Q E hr hG h => ⟨t_l_thing K E,
    (pss_cons (ps_set (i := 1) sc_l_thing.nd rfl (by first | exact Or.inl rfl | exact Or.inr rfl) (pg_call (G_l_take.2.mono (by decide)) hr hG (by rfl) T.g_l_take G_l_take.1.kp (b_l_take_2 G_l_take.1) passE (pa_cons (pv 0) (pa_cons pe_int pa_nil))))
    (pss_cons (ps_if (pt_cmpR op_ltU (pv 1) pe_int (nomark _))
     (pss_one (ps_ret (pg_call (G_l_number.2.mono (by decide)) hr hG (by rfl) T.g_l_number G_l_number.1.kp (b_l_number_1 G_l_number.1) passE (pa_cons (pv 0) pa_nil))))
     pss_nil)
    (pss_cons (ps_if (pt_cmpR (op_eqU hr.units) (pv 1) pe_int (nomark _))
     (pss_one (ps_ret (pg_call (G_l_some_text.2.mono (by decide)) hr hG (by rfl) T.g_l_some_text G_l_some_text.1.kp (b_l_some_text_3 G_l_some_text.1) passE (pa_cons (pv 0) (pa_cons pe_str (pa_cons pe_int pa_nil))))))
     pss_nil)
    (pss_cons (ps_if (pt_cmpR (op_eqU hr.units) (pv 1) pe_int (nomark _))
     (pss_one (ps_ret (pg_call (G_l_some_text.2.mono (by decide)) hr hG (by rfl) T.g_l_some_text G_l_some_text.1.kp (b_l_some_text_3 G_l_some_text.1) passE (pa_cons (pv 0) (pa_cons pe_str (pa_cons pe_int pa_nil))))))
     pss_nil)
    (pss_cons (ps_if (pt_cmpR (op_eqU hr.units) (pv 1) pe_int (nomark _))
     (pss_one (ps_ret (pg_call (G_l_some_hours.2.mono (by decide)) hr hG (by rfl) T.g_l_some_hours G_l_some_hours.1.kp (b_l_some_hours_1 G_l_some_hours.1) passE (pa_cons (pv 0) pa_nil))))
     pss_nil)
    (pss_cons (ps_if (pt_cmpR (op_eqU hr.units) (pv 1) pe_int (nomark _))
     (pss_one (ps_ret (pg_call (G_l_some_step.2.mono (by decide)) hr hG (by rfl) T.g_l_some_step G_l_some_step.1.kp (b_l_some_step_1 G_l_some_step.1) passE (pa_cons (pv 0) pa_nil))))
     pss_nil)
    (pss_cons (ps_set (i := 2) sc_l_thing.nd rfl (by first | exact Or.inl rfl | exact Or.inr rfl) (pe_lst (pa_cons pe_non (pa_cons pe_bl (pa_cons pe_bl (pa_cons pe_str (pa_cons (pe_lst pa_nil) (pa_cons (pe_tup pa_nil) (pa_cons pe_dnewK (pa_cons (pe_disp (pps_cons pe_str pe_int pps_nil) rfl rfl (by simp) (by decide)) (pa_cons (pe_lst (pa_cons pe_int pa_nil)) (pa_cons (pe_tup (pa_cons pe_str pa_nil)) (pa_cons (pe_tup (pa_cons pe_int pa_nil)) (pa_cons (pe_lst (pa_cons (pe_tup (pa_cons pe_int (pa_cons pe_int pa_nil))) pa_nil)) (pa_cons (pe_tup (pa_cons (pe_tup (pa_cons pe_int (pa_cons pe_int pa_nil))) pa_nil)) pa_nil)))))))))))))))
    (pss_one (ps_ret (pe_ix ix_seq (pv 2) (pg_call (G_l_take.2.mono (by decide)) hr hG (by rfl) T.g_l_take G_l_take.1.kp (b_l_take_2 G_l_take.1) passE (pa_cons (pv 0) (pa_cons pe_int pa_nil))) (fun _ _ => rfl))))))))))),
    pure_l_thing  h⟩
theorem len_is_whole : ∀ vs H Q E, (Wn.lift K pureM (F_is_whole K)) vs H Q E → vs.length = 1 := Wn.lift_len fun ds Φ X h => by unfold F_is_whole at h; first | (obtain ⟨_, e, _⟩ := h; rw [e]; rfl) | (obtain ⟨_, _, e, _⟩ := h; rw [e]; rfl) | (obtain ⟨_, _, _, e, _⟩ := h; rw [e]; rfl) | (obtain ⟨_, _, _, _, e, _⟩ := h; rw [e]; rfl) | (obtain ⟨_, _, _, _, _, e, _⟩ := h; rw [e]; rfl) | (obtain ⟨_, _, _, _, _, _, e, _⟩ := h; rw [e]; rfl) | (obtain ⟨_, _, _, _, _, _, _, e, _⟩ := h; rw [e]; rfl) | (obtain ⟨_, _, _, _, _, _, _, _, e, _⟩ := h; rw [e]; rfl) | (obtain ⟨e, _⟩ := h; rw [e]; rfl)
theorem ok_is_whole (T : T K mg) {f : Addr} {fd : FuncData} (F : Fd_is_whole K f fd) : FnG P w K mg base CX0 1 f fd ["thing"] (Wn.lift K pureM (F_is_whole K)) :=
  FnG.of F sc_is_whole len_is_whole fun cdv A outer s H vs Q E hr hG h => ⟨t_is_whole K E,
    (pss_one (ps_ret (pe_and (pe_callB cb_isi (by rfl) T.b_isinstance (by decide +kernel) (pa_cons (pv 0) (pa_cons (pe_bltn (v := .ty "int") (by rfl) T.b_int (by decide +kernel) rfl) pa_nil))) (pe_one (pe_not (pe_callB cb_isi (by rfl) T.b_isinstance (by decide +kernel) (pa_cons (pv 0) (pa_cons (pe_bltn (v := .ty "bool") (by rfl) T.b_bool (by decide +kernel) rfl) pa_nil)))))))),
    pure_is_whole  h⟩
theorem len_is_name : ∀ vs H Q E, (lift K (F_is_name K)) vs H Q E → vs.length = 1 := lift_len fun ds w Φ X h => by unfold F_is_name at h; first | (obtain ⟨_, e, _⟩ := h; rw [e]; rfl) | (obtain ⟨_, _, e, _⟩ := h; rw [e]; rfl) | (obtain ⟨_, _, _, e, _⟩ := h; rw [e]; rfl) | (obtain ⟨_, _, _, _, e, _⟩ := h; rw [e]; rfl) | (obtain ⟨_, _, _, _, _, e, _⟩ := h; rw [e]; rfl) | (obtain ⟨_, _, _, _, _, _, e, _⟩ := h; rw [e]; rfl) | (obtain ⟨_, _, _, _, _, _, _, e, _⟩ := h; rw [e]; rfl) | (obtain ⟨_, _, _, _, _, _, _, _, e, _⟩ := h; rw [e]; rfl) | (obtain ⟨e, _⟩ := h; rw [e]; rfl)
theorem ok_is_name (T : T K mg) {f : Addr} {fd : FuncData} (F : Fd_is_name K f fd) : FnG P w K mg base CX0 1 f fd ["thing"] (lift K (F_is_name K)) :=
  FnG.of F sc_is_name len_is_name fun cdv A outer s H vs Q E hr hG h => ⟨t_is_name K E,
    (pss_cons (ps_if (PW.pt (pw_or (pt_not (pt_val (pe_callB cb_isi (by rfl) T.b_isinstance (by decide +kernel) (pa_cons (pv 0) (pa_cons (pe_bltn (v := .ty "str") (by rfl) T.b_str (by decide +kernel) rfl) pa_nil))))) (pw_or1 (pt_not (pt_chain op_leU op_leU pe_int (pe_callB cb_len (by rfl) T.b_len (by decide +kernel) (pa_cons (pv 0) pa_nil)) (pe_gint (by rfl) T.v_LONGEST_NAME))))))
     (pss_one (ps_ret pe_bl))
     pss_nil)
    (pss_one (ps_ret (pe_callB (cb_all rfl) (by rfl) T.b_all (by decide +kernel) (pa_cons (pe_lc (own := [(("sign" : Str), 1)]) (by rfl) sc_is_name.nd (pi_U (pv 0)) (blkOk_by (own := [(("sign" : Str), 1)]) (N := [("thing" : Str), ("sign" : Str)]) (sc := defScope s_is_name) (by decide +kernel)) (fun _ _ _ _ _ => pg_name (i := 1) sc_is_name.nd rfl (by first | exact Or.inl rfl | exact Or.inr rfl)) (fun _ _ _ _ _ => pts_nil) (fun _ _ _ _ _ => (pe_cmpR op_inU (pv 1) (pe_gstr (by rfl) T.v_LETTERS) (by with_unfolding_all rfl)))) pa_nil))))),
    pure_is_name  h⟩
theorem len_is_within : ∀ vs H Q E, (Wn.lift K pureM (F_is_within K)) vs H Q E → vs.length = 3 := Wn.lift_len fun ds Φ X h => by unfold F_is_within at h; first | (obtain ⟨_, e, _⟩ := h; rw [e]; rfl) | (obtain ⟨_, _, e, _⟩ := h; rw [e]; rfl) | (obtain ⟨_, _, _, e, _⟩ := h; rw [e]; rfl) | (obtain ⟨_, _, _, _, e, _⟩ := h; rw [e]; rfl) | (obtain ⟨_, _, _, _, _, e, _⟩ := h; rw [e]; rfl) | (obtain ⟨_, _, _, _, _, _, e, _⟩ := h; rw [e]; rfl) | (obtain ⟨_, _, _, _, _, _, _, e, _⟩ := h; rw [e]; rfl) | (obtain ⟨_, _, _, _, _, _, _, _, e, _⟩ := h; rw [e]; rfl) | (obtain ⟨e, _⟩ := h; rw [e]; rfl)
theorem ok_is_within (T : T K mg) {fd_is_whole : FuncData} (G_is_whole : Fd_is_whole K (He.ga K "is_whole") fd_is_whole ∧ FnG P w K mg base CX0 1 (He.ga K "is_whole") fd_is_whole ["thing"] (Wn.lift K pureM (F_is_whole K))) {f : Addr} {fd : FuncData} (F : Fd_is_within K f fd) : FnG P w K mg base CX0 2 f fd ["thing", "least", "most"] (Wn.lift K pureM (F_is_within K)) :=
  FnG.of F sc_is_within len_is_within fun cdv A outer s H vs Q E hr hG h => ⟨t_is_within K E,
    (pss_one (ps_ret (pe_and (pg_call (G_is_whole.2.mono (by decide)) hr hG (by rfl) T.g_is_whole G_is_whole.1.kp (b_is_whole_1 G_is_whole.1) passE (pa_cons (pv 0) pa_nil)) (pe_one (pe_chain op_leU op_leU (pv 1) (pv 0) (pv 2)))))),
    pure_is_within  h⟩
theorem len_is_sort : ∀ vs H Q E, (lift K (F_is_sort K)) vs H Q E → vs.length = 1 := lift_len fun ds w Φ X h => by unfold F_is_sort at h; first | (obtain ⟨_, e, _⟩ := h; rw [e]; rfl) | (obtain ⟨_, _, e, _⟩ := h; rw [e]; rfl) | (obtain ⟨_, _, _, e, _⟩ := h; rw [e]; rfl) | (obtain ⟨_, _, _, _, e, _⟩ := h; rw [e]; rfl) | (obtain ⟨_, _, _, _, _, e, _⟩ := h; rw [e]; rfl) | (obtain ⟨_, _, _, _, _, _, e, _⟩ := h; rw [e]; rfl) | (obtain ⟨_, _, _, _, _, _, _, e, _⟩ := h; rw [e]; rfl) | (obtain ⟨_, _, _, _, _, _, _, _, e, _⟩ := h; rw [e]; rfl) | (obtain ⟨e, _⟩ := h; rw [e]; rfl)
theorem ok_is_sort (T : T K mg) {fd_is_within : FuncData} (G_is_within : Fd_is_within K (He.ga K "is_within") fd_is_within ∧ FnG P w K mg base CX0 2 (He.ga K "is_within") fd_is_within ["thing", "least", "most"] (Wn.lift K pureM (F_is_within K))) {f : Addr} {fd : FuncData} (F : Fd_is_sort K f fd) : FnG P w K mg base CX0 3 f fd ["thing"] (lift K (F_is_sort K)) :=
  FnG.of F sc_is_sort len_is_sort fun cdv A outer s H vs Q E hr hG h => ⟨t_is_sort K E,
    (pss_one (ps_ret (pg_call (G_is_within.2.mono (by decide)) hr hG (by rfl) T.g_is_within G_is_within.1.kp (b_is_within_3 G_is_within.1) passE (pa_cons (pv 0) (pa_cons pe_int (pa_cons pe_int pa_nil)))))),
    pure_is_sort  h⟩
theorem len_is_strength : ∀ vs H Q E, (Wn.lift K pureM (F_is_strength K)) vs H Q E → vs.length = 1 := Wn.lift_len fun ds Φ X h => by unfold F_is_strength at h; first | (obtain ⟨_, e, _⟩ := h; rw [e]; rfl) | (obtain ⟨_, _, e, _⟩ := h; rw [e]; rfl) | (obtain ⟨_, _, _, e, _⟩ := h; rw [e]; rfl) | (obtain ⟨_, _, _, _, e, _⟩ := h; rw [e]; rfl) | (obtain ⟨_, _, _, _, _, e, _⟩ := h; rw [e]; rfl) | (obtain ⟨_, _, _, _, _, _, e, _⟩ := h; rw [e]; rfl) | (obtain ⟨_, _, _, _, _, _, _, e, _⟩ := h; rw [e]; rfl) | (obtain ⟨_, _, _, _, _, _, _, _, e, _⟩ := h; rw [e]; rfl) | (obtain ⟨e, _⟩ := h; rw [e]; rfl)
theorem ok_is_strength (T : T K mg) {fd_is_within : FuncData} (G_is_within : Fd_is_within K (He.ga K "is_within") fd_is_within ∧ FnG P w K mg base CX0 2 (He.ga K "is_within") fd_is_within ["thing", "least", "most"] (Wn.lift K pureM (F_is_within K))) {f : Addr} {fd : FuncData} (F : Fd_is_strength K f fd) : FnG P w K mg base CX0 3 f fd ["thing"] (Wn.lift K pureM (F_is_strength K)) :=
  FnG.of F sc_is_strength len_is_strength fun cdv A outer s H vs Q E hr hG h => ⟨t_is_strength K E,
    (pss_one (ps_ret (pg_call (G_is_within.2.mono (by decide)) hr hG (by rfl) T.g_is_within G_is_within.1.kp (b_is_within_3 G_is_within.1) passE (pa_cons (pv 0) (pa_cons pe_int (pa_cons (pe_gint (by rfl) T.v_MOST_STRENGTH) pa_nil)))))),
    pure_is_strength  h⟩
theorem len_is_size : ∀ vs H Q E, (Wn.lift K pureM (F_is_size K)) vs H Q E → vs.length = 1 := Wn.lift_len fun ds Φ X h => by unfold F_is_size at h; first | (obtain ⟨_, e, _⟩ := h; rw [e]; rfl) | (obtain ⟨_, _, e, _⟩ := h; rw [e]; rfl) | (obtain ⟨_, _, _, e, _⟩ := h; rw [e]; rfl) | (obtain ⟨_, _, _, _, e, _⟩ := h; rw [e]; rfl) | (obtain ⟨_, _, _, _, _, e, _⟩ := h; rw [e]; rfl) | (obtain ⟨_, _, _, _, _, _, e, _⟩ := h; rw [e]; rfl) | (obtain ⟨_, _, _, _, _, _, _, e, _⟩ := h; rw [e]; rfl) | (obtain ⟨_, _, _, _, _, _, _, _, e, _⟩ := h; rw [e]; rfl) | (obtain ⟨e, _⟩ := h; rw [e]; rfl)
theorem ok_is_size (T : T K mg) {fd_is_within : FuncData} (G_is_within : Fd_is_within K (He.ga K "is_within") fd_is_within ∧ FnG P w K mg base CX0 2 (He.ga K "is_within") fd_is_within ["thing", "least", "most"] (Wn.lift K pureM (F_is_within K))) {f : Addr} {fd : FuncData} (F : Fd_is_size K f fd) : FnG P w K mg base CX0 3 f fd ["thing"] (Wn.lift K pureM (F_is_size K)) :=
  FnG.of F sc_is_size len_is_size fun cdv A outer s H vs Q E hr hG h => ⟨t_is_size K E,
    (pss_one (ps_ret (pg_call (G_is_within.2.mono (by decide)) hr hG (by rfl) T.g_is_within G_is_within.1.kp (b_is_within_3 G_is_within.1) passE (pa_cons (pv 0) (pa_cons pe_int (pa_cons (pe_gint (by rfl) T.v_MOST_STRENGTH) pa_nil)))))),
    pure_is_size  h⟩
theorem len_is_shift : ∀ vs H Q E, (lift K (F_is_shift K)) vs H Q E → vs.length = 1 := lift_len fun ds w Φ X h => by unfold F_is_shift at h; first | (obtain ⟨_, e, _⟩ := h; rw [e]; rfl) | (obtain ⟨_, _, e, _⟩ := h; rw [e]; rfl) | (obtain ⟨_, _, _, e, _⟩ := h; rw [e]; rfl) | (obtain ⟨_, _, _, _, e, _⟩ := h; rw [e]; rfl) | (obtain ⟨_, _, _, _, _, e, _⟩ := h; rw [e]; rfl) | (obtain ⟨_, _, _, _, _, _, e, _⟩ := h; rw [e]; rfl) | (obtain ⟨_, _, _, _, _, _, _, e, _⟩ := h; rw [e]; rfl) | (obtain ⟨_, _, _, _, _, _, _, _, e, _⟩ := h; rw [e]; rfl) | (obtain ⟨e, _⟩ := h; rw [e]; rfl)
theorem ok_is_shift (T : T K mg) {fd_is_within : FuncData} (G_is_within : Fd_is_within K (He.ga K "is_within") fd_is_within ∧ FnG P w K mg base CX0 2 (He.ga K "is_within") fd_is_within ["thing", "least", "most"] (Wn.lift K pureM (F_is_within K))) {f : Addr} {fd : FuncData} (F : Fd_is_shift K f fd) : FnG P w K mg base CX0 3 f fd ["thing"] (lift K (F_is_shift K)) :=
  FnG.of F sc_is_shift len_is_shift fun cdv A outer s H vs Q E hr hG h => ⟨t_is_shift K E,
    (pss_one (ps_ret (pg_call (G_is_within.2.mono (by decide)) hr hG (by rfl) T.g_is_within G_is_within.1.kp (b_is_within_3 G_is_within.1) passE (pa_cons (pv 0) (pa_cons (pe_op op_subU pe_int (pe_gint (by rfl) T.v_MOST_STRENGTH)) (pa_cons (pe_gint (by rfl) T.v_MOST_STRENGTH) pa_nil)))))),
    pure_is_shift  h⟩
theorem len_is_room : ∀ vs H Q E, (lift K (F_is_room K)) vs H Q E → vs.length = 1 := lift_len fun ds w Φ X h => by unfold F_is_room at h; first | (obtain ⟨_, e, _⟩ := h; rw [e]; rfl) | (obtain ⟨_, _, e, _⟩ := h; rw [e]; rfl) | (obtain ⟨_, _, _, e, _⟩ := h; rw [e]; rfl) | (obtain ⟨_, _, _, _, e, _⟩ := h; rw [e]; rfl) | (obtain ⟨_, _, _, _, _, e, _⟩ := h; rw [e]; rfl) | (obtain ⟨_, _, _, _, _, _, e, _⟩ := h; rw [e]; rfl) | (obtain ⟨_, _, _, _, _, _, _, e, _⟩ := h; rw [e]; rfl) | (obtain ⟨_, _, _, _, _, _, _, _, e, _⟩ := h; rw [e]; rfl) | (obtain ⟨e, _⟩ := h; rw [e]; rfl)
theorem ok_is_room (T : T K mg) {fd_is_within : FuncData} (G_is_within : Fd_is_within K (He.ga K "is_within") fd_is_within ∧ FnG P w K mg base CX0 2 (He.ga K "is_within") fd_is_within ["thing", "least", "most"] (Wn.lift K pureM (F_is_within K))) {f : Addr} {fd : FuncData} (F : Fd_is_room K f fd) : FnG P w K mg base CX0 3 f fd ["thing"] (lift K (F_is_room K)) :=
  FnG.of F sc_is_room len_is_room fun cdv A outer s H vs Q E hr hG h => ⟨t_is_room K E,
    (pss_one (ps_ret (pg_call (G_is_within.2.mono (by decide)) hr hG (by rfl) T.g_is_within G_is_within.1.kp (b_is_within_3 G_is_within.1) passE (pa_cons (pv 0) (pa_cons pe_int (pa_cons (pe_gint (by rfl) T.v_MOST_ROOM) pa_nil)))))),
    pure_is_room  h⟩
theorem len_is_moment : ∀ vs H Q E, (Wn.lift K pureM (F_is_moment K)) vs H Q E → vs.length = 1 := Wn.lift_len fun ds Φ X h => by unfold F_is_moment at h; first | (obtain ⟨_, e, _⟩ := h; rw [e]; rfl) | (obtain ⟨_, _, e, _⟩ := h; rw [e]; rfl) | (obtain ⟨_, _, _, e, _⟩ := h; rw [e]; rfl) | (obtain ⟨_, _, _, _, e, _⟩ := h; rw [e]; rfl) | (obtain ⟨_, _, _, _, _, e, _⟩ := h; rw [e]; rfl) | (obtain ⟨_, _, _, _, _, _, e, _⟩ := h; rw [e]; rfl) | (obtain ⟨_, _, _, _, _, _, _, e, _⟩ := h; rw [e]; rfl) | (obtain ⟨_, _, _, _, _, _, _, _, e, _⟩ := h; rw [e]; rfl) | (obtain ⟨e, _⟩ := h; rw [e]; rfl)
theorem ok_is_moment (T : T K mg) {fd_is_within : FuncData} (G_is_within : Fd_is_within K (He.ga K "is_within") fd_is_within ∧ FnG P w K mg base CX0 2 (He.ga K "is_within") fd_is_within ["thing", "least", "most"] (Wn.lift K pureM (F_is_within K))) {f : Addr} {fd : FuncData} (F : Fd_is_moment K f fd) : FnG P w K mg base CX0 3 f fd ["thing"] (Wn.lift K pureM (F_is_moment K)) :=
  FnG.of F sc_is_moment len_is_moment fun cdv A outer s H vs Q E hr hG h => ⟨t_is_moment K E,
    (pss_one (ps_ret (pg_call (G_is_within.2.mono (by decide)) hr hG (by rfl) T.g_is_within G_is_within.1.kp (b_is_within_3 G_is_within.1) passE (pa_cons (pv 0) (pa_cons pe_int (pa_cons (pe_gint (by rfl) T.v_MOST_MOMENT) pa_nil)))))),
    pure_is_moment  h⟩
theorem len_are_hours : ∀ vs H Q E, (lift K (F_are_hours K)) vs H Q E → vs.length = 1 := lift_len fun ds w Φ X h => by unfold F_are_hours at h; first | (obtain ⟨_, e, _⟩ := h; rw [e]; rfl) | (obtain ⟨_, _, e, _⟩ := h; rw [e]; rfl) | (obtain ⟨_, _, _, e, _⟩ := h; rw [e]; rfl) | (obtain ⟨_, _, _, _, e, _⟩ := h; rw [e]; rfl) | (obtain ⟨_, _, _, _, _, e, _⟩ := h; rw [e]; rfl) | (obtain ⟨_, _, _, _, _, _, e, _⟩ := h; rw [e]; rfl) | (obtain ⟨_, _, _, _, _, _, _, e, _⟩ := h; rw [e]; rfl) | (obtain ⟨_, _, _, _, _, _, _, _, e, _⟩ := h; rw [e]; rfl) | (obtain ⟨e, _⟩ := h; rw [e]; rfl)
theorem ok_are_hours (T : T K mg) {fd_is_within : FuncData} (G_is_within : Fd_is_within K (He.ga K "is_within") fd_is_within ∧ FnG P w K mg base CX0 2 (He.ga K "is_within") fd_is_within ["thing", "least", "most"] (Wn.lift K pureM (F_is_within K))) {f : Addr} {fd : FuncData} (F : Fd_are_hours K f fd) : FnG P w K mg base CX0 3 f fd ["thing"] (lift K (F_are_hours K)) :=
  FnG.of F sc_are_hours len_are_hours fun cdv A outer s H vs Q E hr hG h => ⟨t_are_hours K E,
    (pss_cons (ps_if (PW.pt (pw_or (pt_not (pt_val (pe_callB cb_isi (by rfl) T.b_isinstance (by decide +kernel) (pa_cons (pv 0) (pa_cons (pe_bltn (v := .ty "tuple") (by rfl) T.b_tuple (by decide +kernel) rfl) pa_nil))))) (pw_or1 (pt_cmpR (op_eqU hr.units) (pe_callB cb_len (by rfl) T.b_len (by decide +kernel) (pa_cons (pv 0) pa_nil)) pe_int (nomark _)))))
     (pss_one (ps_ret pe_bl))
     pss_nil)
    (pss_cons (ps_if (pt_not (pt_val (pe_callB (cb_all rfl) (by rfl) T.b_all (by decide +kernel) (pa_cons (pe_lc (own := [(("hour" : Str), 1)]) (by rfl) sc_are_hours.nd (pi_U (pv 0)) (blkOk_by (own := [(("hour" : Str), 1)]) (N := [("thing" : Str), ("hour" : Str), ("k" : Str)]) (sc := defScope s_are_hours) (by decide +kernel)) (fun _ _ _ _ _ => pg_name (i := 1) sc_are_hours.nd rfl (by first | exact Or.inl rfl | exact Or.inr rfl)) (fun _ _ _ _ _ => pts_nil) (fun _ _ _ _ _ => (pg_call (G_is_within.2.mono (by decide)) hr hG (by rfl) T.g_is_within G_is_within.1.kp (b_is_within_3 G_is_within.1) passE (pa_cons (pv 1) (pa_cons pe_int (pa_cons (pe_op op_subU (pe_gint (by rfl) T.v_DAY) pe_int) pa_nil)))))) pa_nil))))
     (pss_one (ps_ret pe_bl))
     pss_nil)
    (pss_one (ps_ret (pe_callB (cb_all rfl) (by rfl) T.b_all (by decide +kernel) (pa_cons (pe_lc (own := [(("k" : Str), 2)]) (by rfl) sc_are_hours.nd (pi_range1 (by rfl) T.b_range (pa_cons (pe_op op_subU (pe_callB cb_len (by rfl) T.b_len (by decide +kernel) (pa_cons (pv 0) pa_nil)) pe_int) pa_nil)) (blkOk_by (own := [(("k" : Str), 2)]) (N := [("thing" : Str), ("hour" : Str), ("k" : Str)]) (sc := defScope s_are_hours) (by decide +kernel)) (fun _ _ _ _ _ => pg_name (i := 2) sc_are_hours.nd rfl (by first | exact Or.inl rfl | exact Or.inr rfl)) (fun _ _ _ _ _ => pts_nil) (fun _ _ _ _ _ => (pe_cmpR op_ltU (pe_ix ix_seq (pv 0) (pv 2) (fun _ _ => rfl)) (pe_ix ix_seq (pv 0) (pe_op op_addU (pv 2) pe_int) (fun _ _ => rfl)) (nomark _)))) pa_nil)))))),
    pure_are_hours  h⟩
theorem len_is_row : ∀ vs H Q E, (Wn.lift K pureM (F_is_row K)) vs H Q E → vs.length = 1 := Wn.lift_len fun ds Φ X h => by unfold F_is_row at h; first | (obtain ⟨_, e, _⟩ := h; rw [e]; rfl) | (obtain ⟨_, _, e, _⟩ := h; rw [e]; rfl) | (obtain ⟨_, _, _, e, _⟩ := h; rw [e]; rfl) | (obtain ⟨_, _, _, _, e, _⟩ := h; rw [e]; rfl) | (obtain ⟨_, _, _, _, _, e, _⟩ := h; rw [e]; rfl) | (obtain ⟨_, _, _, _, _, _, e, _⟩ := h; rw [e]; rfl) | (obtain ⟨_, _, _, _, _, _, _, e, _⟩ := h; rw [e]; rfl) | (obtain ⟨_, _, _, _, _, _, _, _, e, _⟩ := h; rw [e]; rfl) | (obtain ⟨e, _⟩ := h; rw [e]; rfl)
theorem ok_is_row (T : T K mg) {f : Addr} {fd : FuncData} (F : Fd_is_row K f fd) : FnG P w K mg base CX0 1 f fd ["thing"] (Wn.lift K pureM (F_is_row K)) :=
  FnG.of F sc_is_row len_is_row fun cdv A outer s H vs Q E hr hG h => ⟨t_is_row K E,
    (pss_cons (ps_if (PW.pt (pw_or (pt_not (pt_val (pe_callB cb_isi (by rfl) T.b_isinstance (by decide +kernel) (pa_cons (pv 0) (pa_cons (pe_bltn (v := .ty "str") (by rfl) T.b_str (by decide +kernel) rfl) pa_nil))))) (pw_or1 (pt_cmpR op_gtU (pe_callB cb_len (by rfl) T.b_len (by decide +kernel) (pa_cons (pv 0) pa_nil)) (pe_gint (by rfl) T.v_LONGEST_ROW) (nomark _)))))
     (pss_one (ps_ret pe_bl))
     pss_nil)
    (pss_one (ps_ret (pe_callB (cb_all rfl) (by rfl) T.b_all (by decide +kernel) (pa_cons (pe_lc (own := [(("sign" : Str), 1)]) (by rfl) sc_is_row.nd (pi_U (pv 0)) (blkOk_by (own := [(("sign" : Str), 1)]) (N := [("thing" : Str), ("sign" : Str)]) (sc := defScope s_is_row) (by decide +kernel)) (fun _ _ _ _ _ => pg_name (i := 1) sc_is_row.nd rfl (by first | exact Or.inl rfl | exact Or.inr rfl)) (fun _ _ _ _ _ => pts_nil) (fun _ _ _ _ _ => (pe_cmpR op_inU (pv 1) pe_str (by with_unfolding_all rfl)))) pa_nil))))),
    pure_is_row  h⟩
theorem len_is_step : ∀ vs H Q E, (lift K (F_is_step K)) vs H Q E → vs.length = 1 := lift_len fun ds w Φ X h => by unfold F_is_step at h; first | (obtain ⟨_, e, _⟩ := h; rw [e]; rfl) | (obtain ⟨_, _, e, _⟩ := h; rw [e]; rfl) | (obtain ⟨_, _, _, e, _⟩ := h; rw [e]; rfl) | (obtain ⟨_, _, _, _, e, _⟩ := h; rw [e]; rfl) | (obtain ⟨_, _, _, _, _, e, _⟩ := h; rw [e]; rfl) | (obtain ⟨_, _, _, _, _, _, e, _⟩ := h; rw [e]; rfl) | (obtain ⟨_, _, _, _, _, _, _, e, _⟩ := h; rw [e]; rfl) | (obtain ⟨_, _, _, _, _, _, _, _, e, _⟩ := h; rw [e]; rfl) | (obtain ⟨e, _⟩ := h; rw [e]; rfl)
theorem ok_is_step (T : T K mg) {fd_is_within : FuncData} (G_is_within : Fd_is_within K (He.ga K "is_within") fd_is_within ∧ FnG P w K mg base CX0 2 (He.ga K "is_within") fd_is_within ["thing", "least", "most"] (Wn.lift K pureM (F_is_within K))) {fd_is_size : FuncData} (G_is_size : Fd_is_size K (He.ga K "is_size") fd_is_size ∧ FnG P w K mg base CX0 3 (He.ga K "is_size") fd_is_size ["thing"] (Wn.lift K pureM (F_is_size K))) {f : Addr} {fd : FuncData} (F : Fd_is_step K f fd) : FnG P w K mg base CX0 4 f fd ["thing"] (lift K (F_is_step K)) :=
  FnG.of F sc_is_step len_is_step fun cdv A outer s H vs Q E hr hG h => ⟨t_is_step K E,
    (pss_one (ps_ret (pe_and (pe_callB cb_isi (by rfl) T.b_isinstance (by decide +kernel) (pa_cons (pv 0) (pa_cons (pe_bltn (v := .ty "tuple") (by rfl) T.b_tuple (by decide +kernel) rfl) pa_nil))) (pe_and (pe_cmpR (op_eqU hr.units) (pe_callB cb_len (by rfl) T.b_len (by decide +kernel) (pa_cons (pv 0) pa_nil)) pe_int (nomark _)) (pe_and (pg_call (G_is_within.2.mono (by decide)) hr hG (by rfl) T.g_is_within G_is_within.1.kp (b_is_within_3 G_is_within.1) passE (pa_cons (pe_ix ix_seq (pv 0) pe_int (fun _ _ => rfl)) (pa_cons pe_int (pa_cons pe_int pa_nil)))) (pe_one (pg_call (G_is_size.2.mono (by decide)) hr hG (by rfl) T.g_is_size G_is_size.1.kp (b_is_size_1 G_is_size.1) passE (pa_cons (pe_ix ix_seq (pv 0) pe_int (fun _ _ => rfl)) pa_nil)))))))),
    pure_is_step  h⟩
theorem len_l_asked : ∀ vs H Q E, (lift K (F_l_asked K)) vs H Q E → vs.length = 1 := lift_len fun ds w Φ X h => by unfold F_l_asked at h; first | (obtain ⟨_, e, _⟩ := h; rw [e]; rfl) | (obtain ⟨_, _, e, _⟩ := h; rw [e]; rfl) | (obtain ⟨_, _, _, e, _⟩ := h; rw [e]; rfl) | (obtain ⟨_, _, _, _, e, _⟩ := h; rw [e]; rfl) | (obtain ⟨_, _, _, _, _, e, _⟩ := h; rw [e]; rfl) | (obtain ⟨_, _, _, _, _, _, e, _⟩ := h; rw [e]; rfl) | (obtain ⟨_, _, _, _, _, _, _, e, _⟩ := h; rw [e]; rfl) | (obtain ⟨_, _, _, _, _, _, _, _, e, _⟩ := h; rw [e]; rfl) | (obtain ⟨e, _⟩ := h; rw [e]; rfl)
theorem ok_l_asked (T : T K mg) {fd_is_strength : FuncData} (G_is_strength : Fd_is_strength K (He.ga K "is_strength") fd_is_strength ∧ FnG P w K mg base CX0 3 (He.ga K "is_strength") fd_is_strength ["thing"] (Wn.lift K pureM (F_is_strength K))) {fd_is_sort : FuncData} (G_is_sort : Fd_is_sort K (He.ga K "is_sort") fd_is_sort ∧ FnG P w K mg base CX0 3 (He.ga K "is_sort") fd_is_sort ["thing"] (lift K (F_is_sort K))) {fd_is_name : FuncData} (G_is_name : Fd_is_name K (He.ga K "is_name") fd_is_name ∧ FnG P w K mg base CX0 1 (He.ga K "is_name") fd_is_name ["thing"] (lift K (F_is_name K))) {fd_is_whole : FuncData} (G_is_whole : Fd_is_whole K (He.ga K "is_whole") fd_is_whole ∧ FnG P w K mg base CX0 1 (He.ga K "is_whole") fd_is_whole ["thing"] (Wn.lift K pureM (F_is_whole K))) {fd_is_moment : FuncData} (G_is_moment : Fd_is_moment K (He.ga K "is_moment") fd_is_moment ∧ FnG P w K mg base CX0 3 (He.ga K "is_moment") fd_is_moment ["thing"] (Wn.lift K pureM (F_is_moment K))) {fd_is_room : FuncData} (G_is_room : Fd_is_room K (He.ga K "is_room") fd_is_room ∧ FnG P w K mg base CX0 3 (He.ga K "is_room") fd_is_room ["thing"] (lift K (F_is_room K))) {fd_is_shift : FuncData} (G_is_shift : Fd_is_shift K (He.ga K "is_shift") fd_is_shift ∧ FnG P w K mg base CX0 3 (He.ga K "is_shift") fd_is_shift ["thing"] (lift K (F_is_shift K))) {fd_is_size : FuncData} (G_is_size : Fd_is_size K (He.ga K "is_size") fd_is_size ∧ FnG P w K mg base CX0 3 (He.ga K "is_size") fd_is_size ["thing"] (Wn.lift K pureM (F_is_size K))) {fd_is_step : FuncData} (G_is_step : Fd_is_step K (He.ga K "is_step") fd_is_step ∧ FnG P w K mg base CX0 4 (He.ga K "is_step") fd_is_step ["thing"] (lift K (F_is_step K))) {fd_is_row : FuncData} (G_is_row : Fd_is_row K (He.ga K "is_row") fd_is_row ∧ FnG P w K mg base CX0 1 (He.ga K "is_row") fd_is_row ["thing"] (Wn.lift K pureM (F_is_row K))) {fd_are_hours : FuncData} (G_are_hours : Fd_are_hours K (He.ga K "are_hours") fd_are_hours ∧ FnG P w K mg base CX0 3 (He.ga K "are_hours") fd_are_hours ["thing"] (lift K (F_are_hours K))) {f : Addr} {fd : FuncData} (F : Fd_l_asked K f fd) : FnG P w K mg base CX0 5 f fd ["_law_thing_here"] (lift K (F_l_asked K)) :=
  FnG.of F sc_l_asked len_l_asked fun cdv A outer s H vs Q E hr hG h => ⟨t_l_asked K E,
    (pss_cons (ps_set (i := 1) sc_l_asked.nd rfl (by first | exact Or.inl rfl | exact Or.inr rfl) (pe_lst (pa_cons (pg_call (G_is_whole.2.mono (by decide)) hr hG (by rfl) T.g_is_whole G_is_whole.1.kp (b_is_whole_1 G_is_whole.1) passE (pa_cons (pv 0) pa_nil)) (pa_cons (pg_call (G_is_name.2.mono (by decide)) hr hG (by rfl) T.g_is_name G_is_name.1.kp (b_is_name_1 G_is_name.1) passE (pa_cons (pv 0) pa_nil)) (pa_cons (pg_call (G_is_sort.2.mono (by decide)) hr hG (by rfl) T.g_is_sort G_is_sort.1.kp (b_is_sort_1 G_is_sort.1) passE (pa_cons (pv 0) pa_nil)) (pa_cons (pg_call (G_is_strength.2.mono (by decide)) hr hG (by rfl) T.g_is_strength G_is_strength.1.kp (b_is_strength_1 G_is_strength.1) passE (pa_cons (pv 0) pa_nil)) pa_nil))))))
    (pss_cons (ps_set (i := 1) sc_l_asked.nd rfl (by first | exact Or.inl rfl | exact Or.inr rfl) (pe_op op_addU (pv 1) (pe_lst (pa_cons (pg_call (G_is_size.2.mono (by decide)) hr hG (by rfl) T.g_is_size G_is_size.1.kp (b_is_size_1 G_is_size.1) passE (pa_cons (pv 0) pa_nil)) (pa_cons (pg_call (G_is_shift.2.mono (by decide)) hr hG (by rfl) T.g_is_shift G_is_shift.1.kp (b_is_shift_1 G_is_shift.1) passE (pa_cons (pv 0) pa_nil)) (pa_cons (pg_call (G_is_room.2.mono (by decide)) hr hG (by rfl) T.g_is_room G_is_room.1.kp (b_is_room_1 G_is_room.1) passE (pa_cons (pv 0) pa_nil)) (pa_cons (pg_call (G_is_moment.2.mono (by decide)) hr hG (by rfl) T.g_is_moment G_is_moment.1.kp (b_is_moment_1 G_is_moment.1) passE (pa_cons (pv 0) pa_nil)) pa_nil)))))))
    (pss_one (ps_ret (pe_op op_addU (pv 1) (pe_lst (pa_cons (pg_call (G_are_hours.2.mono (by decide)) hr hG (by rfl) T.g_are_hours G_are_hours.1.kp (b_are_hours_1 G_are_hours.1) passE (pa_cons (pv 0) pa_nil)) (pa_cons (pg_call (G_is_row.2.mono (by decide)) hr hG (by rfl) T.g_is_row G_is_row.1.kp (b_is_row_1 G_is_row.1) passE (pa_cons (pv 0) pa_nil)) (pa_cons (pg_call (G_is_step.2.mono (by decide)) hr hG (by rfl) T.g_is_step G_is_step.1.kp (b_is_step_1 G_is_step.1) passE (pa_cons (pv 0) pa_nil)) pa_nil))))))))),
    pure_l_asked  h⟩
theorem len_l_is_name : ∀ vs H Q E, (lift K (F_l_is_name K)) vs H Q E → vs.length = 1 := lift_len fun ds w Φ X h => by unfold F_l_is_name at h; first | (obtain ⟨_, e, _⟩ := h; rw [e]; rfl) | (obtain ⟨_, _, e, _⟩ := h; rw [e]; rfl) | (obtain ⟨_, _, _, e, _⟩ := h; rw [e]; rfl) | (obtain ⟨_, _, _, _, e, _⟩ := h; rw [e]; rfl) | (obtain ⟨_, _, _, _, _, e, _⟩ := h; rw [e]; rfl) | (obtain ⟨_, _, _, _, _, _, e, _⟩ := h; rw [e]; rfl) | (obtain ⟨_, _, _, _, _, _, _, e, _⟩ := h; rw [e]; rfl) | (obtain ⟨_, _, _, _, _, _, _, _, e, _⟩ := h; rw [e]; rfl) | (obtain ⟨e, _⟩ := h; rw [e]; rfl)
theorem ok_l_is_name (T : T K mg) {f : Addr} {fd : FuncData} (F : Fd_l_is_name K f fd) : FnG P w K mg base CX0 1 f fd ["_law_thing_here"] (lift K (F_l_is_name K)) :=
  FnG.of F sc_l_is_name len_l_is_name fun cdv A outer s H vs Q E hr hG h => ⟨t_l_is_name K E,
    (pss_cons (ps_if (PW.pt (pw_or (pt_not (pt_val (pe_callB cb_isi (by rfl) T.b_isinstance (by decide +kernel) (pa_cons (pv 0) (pa_cons (pe_bltn (v := .ty "str") (by rfl) T.b_str (by decide +kernel) rfl) pa_nil))))) (pw_or1 (pt_not (pt_chain op_leU op_leU pe_int (pe_callB cb_len (by rfl) T.b_len (by decide +kernel) (pa_cons (pv 0) pa_nil)) pe_int)))))
     (pss_one (ps_ret pe_bl))
     pss_nil)
    (pss_one (ps_ret (pe_cmpR (op_eqU hr.units) (pe_lc (own := [(("_law_sign" : Str), 1)]) (by rfl) sc_l_is_name.nd (pi_U (pv 0)) (blkOk_by (own := [(("_law_sign" : Str), 1)]) (N := [("_law_thing_here" : Str), ("_law_sign" : Str)]) (sc := defScope s_l_is_name) (by decide +kernel)) (fun _ _ _ _ _ => pg_name (i := 1) sc_l_is_name.nd rfl (by first | exact Or.inl rfl | exact Or.inr rfl)) (fun _ _ _ _ _ => (pts_one (pt_cmpR op_niU (pv 1) pe_str (by with_unfolding_all rfl)))) (fun _ _ _ _ _ => (pv 1))) (pe_lst pa_nil) (nomark _))))),
    pure_l_is_name  h⟩
theorem len_l_within : ∀ vs H Q E, (lift K (F_l_within K)) vs H Q E → vs.length = 3 := lift_len fun ds w Φ X h => by unfold F_l_within at h; first | (obtain ⟨_, e, _⟩ := h; rw [e]; rfl) | (obtain ⟨_, _, e, _⟩ := h; rw [e]; rfl) | (obtain ⟨_, _, _, e, _⟩ := h; rw [e]; rfl) | (obtain ⟨_, _, _, _, e, _⟩ := h; rw [e]; rfl) | (obtain ⟨_, _, _, _, _, e, _⟩ := h; rw [e]; rfl) | (obtain ⟨_, _, _, _, _, _, e, _⟩ := h; rw [e]; rfl) | (obtain ⟨_, _, _, _, _, _, _, e, _⟩ := h; rw [e]; rfl) | (obtain ⟨_, _, _, _, _, _, _, _, e, _⟩ := h; rw [e]; rfl) | (obtain ⟨e, _⟩ := h; rw [e]; rfl)
theorem ok_l_within (T : T K mg) {f : Addr} {fd : FuncData} (F : Fd_l_within K f fd) : FnG P w K mg base CX0 1 f fd ["_law_thing_here", "_law_low", "_law_high"] (lift K (F_l_within K)) :=
  FnG.of F sc_l_within len_l_within fun cdv A outer s H vs Q E hr hG h => ⟨t_l_within K E,
    (pss_one (ps_ret (pe_and (pe_callB cb_isi (by rfl) T.b_isinstance (by decide +kernel) (pa_cons (pv 0) (pa_cons (pe_bltn (v := .ty "int") (by rfl) T.b_int (by decide +kernel) rfl) pa_nil))) (pe_and (pe_not (pe_callB cb_isi (by rfl) T.b_isinstance (by decide +kernel) (pa_cons (pv 0) (pa_cons (pe_bltn (v := .ty "bool") (by rfl) T.b_bool (by decide +kernel) rfl) pa_nil)))) (pe_one (pe_chain op_leU op_leU (pv 1) (pv 0) (pv 2))))))),
    pure_l_within  h⟩
theorem len_l_are_hours : ∀ vs H Q E, (lift K (F_l_are_hours K)) vs H Q E → vs.length = 1 := lift_len fun ds w Φ X h => by unfold F_l_are_hours at h; first | (obtain ⟨_, e, _⟩ := h; rw [e]; rfl) | (obtain ⟨_, _, e, _⟩ := h; rw [e]; rfl) | (obtain ⟨_, _, _, e, _⟩ := h; rw [e]; rfl) | (obtain ⟨_, _, _, _, e, _⟩ := h; rw [e]; rfl) | (obtain ⟨_, _, _, _, _, e, _⟩ := h; rw [e]; rfl) | (obtain ⟨_, _, _, _, _, _, e, _⟩ := h; rw [e]; rfl) | (obtain ⟨_, _, _, _, _, _, _, e, _⟩ := h; rw [e]; rfl) | (obtain ⟨_, _, _, _, _, _, _, _, e, _⟩ := h; rw [e]; rfl) | (obtain ⟨e, _⟩ := h; rw [e]; rfl)
theorem ok_l_are_hours (T : T K mg) {fd_l_within : FuncData} (G_l_within : Fd_l_within K (He.ga K "_law_within") fd_l_within ∧ FnG P w K mg base CX0 1 (He.ga K "_law_within") fd_l_within ["_law_thing_here", "_law_low", "_law_high"] (lift K (F_l_within K))) {f : Addr} {fd : FuncData} (F : Fd_l_are_hours K f fd) : FnG P w K mg base CX0 2 f fd ["_law_thing_here"] (lift K (F_l_are_hours K)) :=
  FnG.of F sc_l_are_hours len_l_are_hours fun cdv A outer s H vs Q E hr hG h => ⟨t_l_are_hours K E,
    (pss_cons (ps_if (PW.pt (pw_or (pt_not (pt_val (pe_callB cb_isi (by rfl) T.b_isinstance (by decide +kernel) (pa_cons (pv 0) (pa_cons (pe_bltn (v := .ty "tuple") (by rfl) T.b_tuple (by decide +kernel) rfl) pa_nil))))) (pw_or (pt_cmpR (op_eqU hr.units) (pv 0) (pe_tup pa_nil) (nomark _)) (pw_or1 (pt_not (pt_val (pe_callB (cb_all rfl) (by rfl) T.b_all (by decide +kernel) (pa_cons (pe_lc (own := [(("_law_one" : Str), 1)]) (by rfl) sc_l_are_hours.nd (pi_U (pv 0)) (blkOk_by (own := [(("_law_one" : Str), 1)]) (N := [("_law_thing_here" : Str), ("_law_one" : Str), ("_law_k" : Str)]) (sc := defScope s_l_are_hours) (by decide +kernel)) (fun _ _ _ _ _ => pg_name (i := 1) sc_l_are_hours.nd rfl (by first | exact Or.inl rfl | exact Or.inr rfl)) (fun _ _ _ _ _ => pts_nil) (fun _ _ _ _ _ => (pg_call (G_l_within.2.mono (by decide)) hr hG (by rfl) T.g_l_within G_l_within.1.kp (b_l_within_3 G_l_within.1) passE (pa_cons (pv 1) (pa_cons pe_int (pa_cons pe_int pa_nil)))))) pa_nil))))))))
     (pss_one (ps_ret pe_bl))
     pss_nil)
    (pss_one (ps_ret (pe_callB (cb_all rfl) (by rfl) T.b_all (by decide +kernel) (pa_cons (pe_lc (own := [(("_law_k" : Str), 2)]) (by rfl) sc_l_are_hours.nd (pi_range1 (by rfl) T.b_range (pa_cons (pe_op op_subU (pe_callB cb_len (by rfl) T.b_len (by decide +kernel) (pa_cons (pv 0) pa_nil)) pe_int) pa_nil)) (blkOk_by (own := [(("_law_k" : Str), 2)]) (N := [("_law_thing_here" : Str), ("_law_one" : Str), ("_law_k" : Str)]) (sc := defScope s_l_are_hours) (by decide +kernel)) (fun _ _ _ _ _ => pg_name (i := 2) sc_l_are_hours.nd rfl (by first | exact Or.inl rfl | exact Or.inr rfl)) (fun _ _ _ _ _ => pts_nil) (fun _ _ _ _ _ => (pe_cmpR op_ltU (pe_ix ix_seq (pv 0) (pv 2) (fun _ _ => rfl)) (pe_ix ix_seq (pv 0) (pe_op op_addU (pv 2) pe_int) (fun _ _ => rfl)) (nomark _)))) pa_nil))))),
    pure_l_are_hours  h⟩
theorem len_l_is_row : ∀ vs H Q E, (lift K (F_l_is_row K)) vs H Q E → vs.length = 1 := lift_len fun ds w Φ X h => by unfold F_l_is_row at h; first | (obtain ⟨_, e, _⟩ := h; rw [e]; rfl) | (obtain ⟨_, _, e, _⟩ := h; rw [e]; rfl) | (obtain ⟨_, _, _, e, _⟩ := h; rw [e]; rfl) | (obtain ⟨_, _, _, _, e, _⟩ := h; rw [e]; rfl) | (obtain ⟨_, _, _, _, _, e, _⟩ := h; rw [e]; rfl) | (obtain ⟨_, _, _, _, _, _, e, _⟩ := h; rw [e]; rfl) | (obtain ⟨_, _, _, _, _, _, _, e, _⟩ := h; rw [e]; rfl) | (obtain ⟨_, _, _, _, _, _, _, _, e, _⟩ := h; rw [e]; rfl) | (obtain ⟨e, _⟩ := h; rw [e]; rfl)
theorem ok_l_is_row (T : T K mg) {f : Addr} {fd : FuncData} (F : Fd_l_is_row K f fd) : FnG P w K mg base CX0 1 f fd ["_law_thing_here"] (lift K (F_l_is_row K)) :=
  FnG.of F sc_l_is_row len_l_is_row fun cdv A outer s H vs Q E hr hG h => ⟨t_l_is_row K E,
    (pss_one (ps_ret (pe_and (pe_callB cb_isi (by rfl) T.b_isinstance (by decide +kernel) (pa_cons (pv 0) (pa_cons (pe_bltn (v := .ty "str") (by rfl) T.b_str (by decide +kernel) rfl) pa_nil))) (pe_and (pe_cmpR op_leU (pe_callB cb_len (by rfl) T.b_len (by decide +kernel) (pa_cons (pv 0) pa_nil)) pe_int (nomark _)) (pe_one (pe_cmpR (op_eqU hr.units) (pe_lc (own := [(("_law_sign" : Str), 1)]) (by rfl) sc_l_is_row.nd (pi_U (pv 0)) (blkOk_by (own := [(("_law_sign" : Str), 1)]) (N := [("_law_thing_here" : Str), ("_law_sign" : Str)]) (sc := defScope s_l_is_row) (by decide +kernel)) (fun _ _ _ _ _ => pg_name (i := 1) sc_l_is_row.nd rfl (by first | exact Or.inl rfl | exact Or.inr rfl)) (fun _ _ _ _ _ => (pts_one (pt_cmpR op_niU (pv 1) pe_str (by with_unfolding_all rfl)))) (fun _ _ _ _ _ => (pv 1))) (pe_lst pa_nil) (nomark _))))))),
    pure_l_is_row  h⟩
theorem len_l_is_step : ∀ vs H Q E, (lift K (F_l_is_step K)) vs H Q E → vs.length = 1 := lift_len fun ds w Φ X h => by unfold F_l_is_step at h; first | (obtain ⟨_, e, _⟩ := h; rw [e]; rfl) | (obtain ⟨_, _, e, _⟩ := h; rw [e]; rfl) | (obtain ⟨_, _, _, e, _⟩ := h; rw [e]; rfl) | (obtain ⟨_, _, _, _, e, _⟩ := h; rw [e]; rfl) | (obtain ⟨_, _, _, _, _, e, _⟩ := h; rw [e]; rfl) | (obtain ⟨_, _, _, _, _, _, e, _⟩ := h; rw [e]; rfl) | (obtain ⟨_, _, _, _, _, _, _, e, _⟩ := h; rw [e]; rfl) | (obtain ⟨_, _, _, _, _, _, _, _, e, _⟩ := h; rw [e]; rfl) | (obtain ⟨e, _⟩ := h; rw [e]; rfl)
theorem ok_l_is_step (T : T K mg) {fd_l_within : FuncData} (G_l_within : Fd_l_within K (He.ga K "_law_within") fd_l_within ∧ FnG P w K mg base CX0 1 (He.ga K "_law_within") fd_l_within ["_law_thing_here", "_law_low", "_law_high"] (lift K (F_l_within K))) {f : Addr} {fd : FuncData} (F : Fd_l_is_step K f fd) : FnG P w K mg base CX0 2 f fd ["_law_thing_here"] (lift K (F_l_is_step K)) :=
  FnG.of F sc_l_is_step len_l_is_step fun cdv A outer s H vs Q E hr hG h => ⟨t_l_is_step K E,
    (pss_cons (ps_if (PW.pt (pw_or (pt_not (pt_val (pe_callB cb_isi (by rfl) T.b_isinstance (by decide +kernel) (pa_cons (pv 0) (pa_cons (pe_bltn (v := .ty "tuple") (by rfl) T.b_tuple (by decide +kernel) rfl) pa_nil))))) (pw_or1 (pt_cmpR (op_neU hr.units) (pe_callB cb_len (by rfl) T.b_len (by decide +kernel) (pa_cons (pv 0) pa_nil)) pe_int (nomark _)))))
     (pss_one (ps_ret pe_bl))
     pss_nil)
    (pss_one (ps_ret (pe_and (pg_call (G_l_within.2.mono (by decide)) hr hG (by rfl) T.g_l_within G_l_within.1.kp (b_l_within_3 G_l_within.1) passE (pa_cons (pe_ix ix_seq (pv 0) pe_int (fun _ _ => rfl)) (pa_cons pe_int (pa_cons pe_int pa_nil)))) (pe_one (pg_call (G_l_within.2.mono (by decide)) hr hG (by rfl) T.g_l_within G_l_within.1.kp (b_l_within_3 G_l_within.1) passE (pa_cons (pe_ix ix_seq (pv 0) pe_int (fun _ _ => rfl)) (pa_cons pe_int (pa_cons (pe_op op_powU pe_int pe_int) pa_nil))))))))),
    pure_l_is_step  h⟩
theorem len_l_due : ∀ vs H Q E, (lift K (F_l_due K)) vs H Q E → vs.length = 1 := lift_len fun ds w Φ X h => by unfold F_l_due at h; first | (obtain ⟨_, e, _⟩ := h; rw [e]; rfl) | (obtain ⟨_, _, e, _⟩ := h; rw [e]; rfl) | (obtain ⟨_, _, _, e, _⟩ := h; rw [e]; rfl) | (obtain ⟨_, _, _, _, e, _⟩ := h; rw [e]; rfl) | (obtain ⟨_, _, _, _, _, e, _⟩ := h; rw [e]; rfl) | (obtain ⟨_, _, _, _, _, _, e, _⟩ := h; rw [e]; rfl) | (obtain ⟨_, _, _, _, _, _, _, e, _⟩ := h; rw [e]; rfl) | (obtain ⟨_, _, _, _, _, _, _, _, e, _⟩ := h; rw [e]; rfl) | (obtain ⟨e, _⟩ := h; rw [e]; rfl)
theorem ok_l_due (T : T K mg) {fd_l_within : FuncData} (G_l_within : Fd_l_within K (He.ga K "_law_within") fd_l_within ∧ FnG P w K mg base CX0 1 (He.ga K "_law_within") fd_l_within ["_law_thing_here", "_law_low", "_law_high"] (lift K (F_l_within K))) {fd_l_is_name : FuncData} (G_l_is_name : Fd_l_is_name K (He.ga K "_law_is_name") fd_l_is_name ∧ FnG P w K mg base CX0 1 (He.ga K "_law_is_name") fd_l_is_name ["_law_thing_here"] (lift K (F_l_is_name K))) {fd_l_is_step : FuncData} (G_l_is_step : Fd_l_is_step K (He.ga K "_law_is_step") fd_l_is_step ∧ FnG P w K mg base CX0 2 (He.ga K "_law_is_step") fd_l_is_step ["_law_thing_here"] (lift K (F_l_is_step K))) {fd_l_is_row : FuncData} (G_l_is_row : Fd_l_is_row K (He.ga K "_law_is_row") fd_l_is_row ∧ FnG P w K mg base CX0 1 (He.ga K "_law_is_row") fd_l_is_row ["_law_thing_here"] (lift K (F_l_is_row K))) {fd_l_are_hours : FuncData} (G_l_are_hours : Fd_l_are_hours K (He.ga K "_law_are_hours") fd_l_are_hours ∧ FnG P w K mg base CX0 2 (He.ga K "_law_are_hours") fd_l_are_hours ["_law_thing_here"] (lift K (F_l_are_hours K))) {f : Addr} {fd : FuncData} (F : Fd_l_due K f fd) : FnG P w K mg base CX0 3 f fd ["_law_thing_here"] (lift K (F_l_due K)) :=
  FnG.of F sc_l_due len_l_due fun cdv A outer s H vs Q E hr hG h => ⟨t_l_due K E,
    (pss_cons (ps_set (i := 1) sc_l_due.nd rfl (by first | exact Or.inl rfl | exact Or.inr rfl) (pe_and (pe_callB cb_isi (by rfl) T.b_isinstance (by decide +kernel) (pa_cons (pv 0) (pa_cons (pe_bltn (v := .ty "int") (by rfl) T.b_int (by decide +kernel) rfl) pa_nil))) (pe_one (pe_not (pe_callB cb_isi (by rfl) T.b_isinstance (by decide +kernel) (pa_cons (pv 0) (pa_cons (pe_bltn (v := .ty "bool") (by rfl) T.b_bool (by decide +kernel) rfl) pa_nil)))))))
    (pss_cons (ps_set (i := 2) sc_l_due.nd rfl (by first | exact Or.inl rfl | exact Or.inr rfl) (pe_lst (pa_cons (pv 1) (pa_cons (pg_call (G_l_is_name.2.mono (by decide)) hr hG (by rfl) T.g_l_is_name G_l_is_name.1.kp (b_l_is_name_1 G_l_is_name.1) passE (pa_cons (pv 0) pa_nil)) (pa_cons (pg_call (G_l_within.2.mono (by decide)) hr hG (by rfl) T.g_l_within G_l_within.1.kp (b_l_within_3 G_l_within.1) passE (pa_cons (pv 0) (pa_cons pe_int (pa_cons pe_int pa_nil)))) (pa_cons (pg_call (G_l_within.2.mono (by decide)) hr hG (by rfl) T.g_l_within G_l_within.1.kp (b_l_within_3 G_l_within.1) passE (pa_cons (pv 0) (pa_cons pe_int (pa_cons (pe_op op_powU pe_int pe_int) pa_nil)))) pa_nil))))))
    (pss_cons (ps_set (i := 2) sc_l_due.nd rfl (by first | exact Or.inl rfl | exact Or.inr rfl) (pe_op op_addU (pv 2) (pe_lst (pa_cons (pg_call (G_l_within.2.mono (by decide)) hr hG (by rfl) T.g_l_within G_l_within.1.kp (b_l_within_3 G_l_within.1) passE (pa_cons (pv 0) (pa_cons pe_int (pa_cons (pe_op op_powU pe_int pe_int) pa_nil)))) (pa_cons (pg_call (G_l_within.2.mono (by decide)) hr hG (by rfl) T.g_l_within G_l_within.1.kp (b_l_within_3 G_l_within.1) passE (pa_cons (pv 0) (pa_cons (pe_un un_negU (pe_op op_powU pe_int pe_int)) (pa_cons (pe_op op_powU pe_int pe_int) pa_nil)))) pa_nil)))))
    (pss_cons (ps_set (i := 2) sc_l_due.nd rfl (by first | exact Or.inl rfl | exact Or.inr rfl) (pe_op op_addU (pv 2) (pe_lst (pa_cons (pg_call (G_l_within.2.mono (by decide)) hr hG (by rfl) T.g_l_within G_l_within.1.kp (b_l_within_3 G_l_within.1) passE (pa_cons (pv 0) (pa_cons pe_int (pa_cons (pe_op op_powU pe_int pe_int) pa_nil)))) (pa_cons (pg_call (G_l_within.2.mono (by decide)) hr hG (by rfl) T.g_l_within G_l_within.1.kp (b_l_within_3 G_l_within.1) passE (pa_cons (pv 0) (pa_cons pe_int (pa_cons (pe_op op_powU pe_int pe_int) pa_nil)))) pa_nil)))))
    (pss_one (ps_ret (pe_op op_addU (pv 2) (pe_lst (pa_cons (pg_call (G_l_are_hours.2.mono (by decide)) hr hG (by rfl) T.g_l_are_hours G_l_are_hours.1.kp (b_l_are_hours_1 G_l_are_hours.1) passE (pa_cons (pv 0) pa_nil)) (pa_cons (pg_call (G_l_is_row.2.mono (by decide)) hr hG (by rfl) T.g_l_is_row G_l_is_row.1.kp (b_l_is_row_1 G_l_is_row.1) passE (pa_cons (pv 0) pa_nil)) (pa_cons (pg_call (G_l_is_step.2.mono (by decide)) hr hG (by rfl) T.g_l_is_step G_l_is_step.1.kp (b_l_is_step_1 G_l_is_step.1) passE (pa_cons (pv 0) pa_nil)) pa_nil))))))))))),
    pure_l_due  h⟩
theorem ok_law (T : T K mg) {fd_l_bag : FuncData} (G_l_bag : Fd_l_bag K (He.ga K "_law_bag") fd_l_bag ∧ FnG P w K mg base CX0 1 (He.ga K "_law_bag") fd_l_bag ["_law_script"] (spBag K)) {fd_l_thing : FuncData} (G_l_thing : Fd_l_thing K (He.ga K "_law_thing") fd_l_thing ∧ FnG P w K mg base CX0 4 (He.ga K "_law_thing") fd_l_thing ["_law_bag_here"] (lift K (F_l_thing K))) {fd_l_asked : FuncData} (G_l_asked : Fd_l_asked K (He.ga K "_law_asked") fd_l_asked ∧ FnG P w K mg base CX0 5 (He.ga K "_law_asked") fd_l_asked ["_law_thing_here"] (lift K (F_l_asked K))) {fd_l_due : FuncData} (G_l_due : Fd_l_due K (He.ga K "_law_due") fd_l_due ∧ FnG P w K mg base CX0 3 (He.ga K "_law_due") fd_l_due ["_law_thing_here"] (lift K (F_l_due K))) {f : Addr} {fd : FuncData} (F : Fd_law K f fd) : FnG P w K mg base CX0 6 f fd ["_law_script"] (spLaw K) :=
  FnG.of F sc_law spLaw_len fun cdv A outer s H vs Q E hr hG h => ⟨t_law K E,
    (pss_cons (ps_set (i := 1) sc_law.nd rfl (by first | exact Or.inl rfl | exact Or.inr rfl) (pg_call (G_l_bag.2.mono (by decide)) hr hG (by rfl) T.g_l_bag G_l_bag.1.kp (b_l_bag_1 G_l_bag.1) passE (pa_cons (pv 0) pa_nil)))
    (pss_cons (ps_for passN rfl (pi_range1 (by rfl) T.b_range (pa_cons pe_int pa_nil)) (pg_name (i := 2) sc_law.nd rfl (by first | exact Or.inl rfl | exact Or.inr rfl))
     (pss_cons (ps_set (i := 3) sc_law.nd rfl (by first | exact Or.inl rfl | exact Or.inr rfl) (pg_call (G_l_thing.2.mono (by decide)) hr hG (by rfl) T.g_l_thing G_l_thing.1.kp (b_l_thing_1 G_l_thing.1) passE (pa_cons (pv 1) pa_nil)))
      (pss_cons (ps_set (i := 4) sc_law.nd rfl (by first | exact Or.inl rfl | exact Or.inr rfl) (pe_callB (cb_repr hr hG) (by rfl) T.b_repr (by decide +kernel) (pa_cons (pv 3) pa_nil)))
      (pss_one (ps_if (PW.pt (pw_or (pt_cmpR (op_neU hr.units) (pe_callB (cb_repr hr hG) (by rfl) T.b_repr (by decide +kernel) (pa_cons (pg_call (G_l_asked.2.mono (by decide)) hr hG (by rfl) T.g_l_asked G_l_asked.1.kp (b_l_asked_1 G_l_asked.1) passE (pa_cons (pv 3) pa_nil)) pa_nil)) (pe_callB (cb_repr hr hG) (by rfl) T.b_repr (by decide +kernel) (pa_cons (pg_call (G_l_due.2.mono (by decide)) hr hG (by rfl) T.g_l_due G_l_due.1.kp (b_l_due_1 G_l_due.1) passE (pa_cons (pv 3) pa_nil)) pa_nil)) (nomark _)) (pw_or1 (pt_cmpR (op_neU hr.units) (pe_callB (cb_repr hr hG) (by rfl) T.b_repr (by decide +kernel) (pa_cons (pv 3) pa_nil)) (pv 4) (nomark _)))))
       (pss_one (ps_ret pe_bl))
       pss_nil)))))
    (pss_one (ps_ret pe_bl)))),
    pure_law T.sys_ok h⟩
end
def d_l_bag : He.DefD := ⟨("_law_bag", none), "_law_bag", "_law_bag", defArgs s_l_bag, defBody s_l_bag, defScope s_l_bag, [], []⟩
def d_l_take : He.DefD := ⟨("_law_take", none), "_law_take", "_law_take", defArgs s_l_take, defBody s_l_take, defScope s_l_take, [], []⟩
def d_l_number : He.DefD := ⟨("_law_number", none), "_law_number", "_law_number", defArgs s_l_number, defBody s_l_number, defScope s_l_number, [], []⟩
def d_l_some_text : He.DefD := ⟨("_law_some_text", none), "_law_some_text", "_law_some_text", defArgs s_l_some_text, defBody s_l_some_text, defScope s_l_some_text, [], []⟩
def d_l_some_hours : He.DefD := ⟨("_law_some_hours", none), "_law_some_hours", "_law_some_hours", defArgs s_l_some_hours, defBody s_l_some_hours, defScope s_l_some_hours, [], []⟩
def d_l_some_step : He.DefD := ⟨("_law_some_step", none), "_law_some_step", "_law_some_step", defArgs s_l_some_step, defBody s_l_some_step, defScope s_l_some_step, [], []⟩
def d_l_thing : He.DefD := ⟨("_law_thing", none), "_law_thing", "_law_thing", defArgs s_l_thing, defBody s_l_thing, defScope s_l_thing, [], []⟩
def d_is_whole : He.DefD := ⟨("is_whole", none), "is_whole", "is_whole", defArgs s_is_whole, defBody s_is_whole, defScope s_is_whole, [], []⟩
def d_is_name : He.DefD := ⟨("is_name", none), "is_name", "is_name", defArgs s_is_name, defBody s_is_name, defScope s_is_name, [], []⟩
def d_is_within : He.DefD := ⟨("is_within", none), "is_within", "is_within", defArgs s_is_within, defBody s_is_within, defScope s_is_within, [], []⟩
def d_is_sort : He.DefD := ⟨("is_sort", none), "is_sort", "is_sort", defArgs s_is_sort, defBody s_is_sort, defScope s_is_sort, [], []⟩
def d_is_strength : He.DefD := ⟨("is_strength", none), "is_strength", "is_strength", defArgs s_is_strength, defBody s_is_strength, defScope s_is_strength, [], []⟩
def d_is_size : He.DefD := ⟨("is_size", none), "is_size", "is_size", defArgs s_is_size, defBody s_is_size, defScope s_is_size, [], []⟩
def d_is_shift : He.DefD := ⟨("is_shift", none), "is_shift", "is_shift", defArgs s_is_shift, defBody s_is_shift, defScope s_is_shift, [], []⟩
def d_is_room : He.DefD := ⟨("is_room", none), "is_room", "is_room", defArgs s_is_room, defBody s_is_room, defScope s_is_room, [], []⟩
def d_is_moment : He.DefD := ⟨("is_moment", none), "is_moment", "is_moment", defArgs s_is_moment, defBody s_is_moment, defScope s_is_moment, [], []⟩
def d_are_hours : He.DefD := ⟨("are_hours", none), "are_hours", "are_hours", defArgs s_are_hours, defBody s_are_hours, defScope s_are_hours, [], []⟩
def d_is_row : He.DefD := ⟨("is_row", none), "is_row", "is_row", defArgs s_is_row, defBody s_is_row, defScope s_is_row, [], []⟩
def d_is_step : He.DefD := ⟨("is_step", none), "is_step", "is_step", defArgs s_is_step, defBody s_is_step, defScope s_is_step, [], []⟩
def d_l_asked : He.DefD := ⟨("_law_asked", none), "_law_asked", "_law_asked", defArgs s_l_asked, defBody s_l_asked, defScope s_l_asked, [], []⟩
def d_l_is_name : He.DefD := ⟨("_law_is_name", none), "_law_is_name", "_law_is_name", defArgs s_l_is_name, defBody s_l_is_name, defScope s_l_is_name, [], []⟩
def d_l_within : He.DefD := ⟨("_law_within", none), "_law_within", "_law_within", defArgs s_l_within, defBody s_l_within, defScope s_l_within, [], []⟩
def d_l_are_hours : He.DefD := ⟨("_law_are_hours", none), "_law_are_hours", "_law_are_hours", defArgs s_l_are_hours, defBody s_l_are_hours, defScope s_l_are_hours, [], []⟩
def d_l_is_row : He.DefD := ⟨("_law_is_row", none), "_law_is_row", "_law_is_row", defArgs s_l_is_row, defBody s_l_is_row, defScope s_l_is_row, [], []⟩
def d_l_is_step : He.DefD := ⟨("_law_is_step", none), "_law_is_step", "_law_is_step", defArgs s_l_is_step, defBody s_l_is_step, defScope s_l_is_step, [], []⟩
def d_l_due : He.DefD := ⟨("_law_due", none), "_law_due", "_law_due", defArgs s_l_due, defBody s_l_due, defScope s_l_due, [], []⟩
def d_law : He.DefD := ⟨("law", none), "law", "law", defArgs s_law, defBody s_law, defScope s_law, [], []⟩
def fn : List He.DefD := [d_l_bag, d_l_take, d_l_number, d_l_some_text, d_l_some_hours, d_l_some_step, d_l_thing, d_is_whole, d_is_name, d_is_within, d_is_sort, d_is_strength, d_is_size, d_is_shift, d_is_room, d_is_moment, d_are_hours, d_is_row, d_is_step, d_l_asked, d_l_is_name, d_l_within, d_l_are_hours, d_l_is_row, d_l_is_step, d_l_due, d_law]
def fa : List He.Fa := [(.free "abs" : He.Fa), (.free "all" : He.Fa), (.free "bool" : He.Fa), (.free "int" : He.Fa), (.free "isinstance" : He.Fa), (.free "len" : He.Fa), (.free "list" : He.Fa), (.free "range" : He.Fa), (.free "repr" : He.Fa), (.free "str" : He.Fa), (.free "tuple" : He.Fa), (.glo "_law_are_hours" : He.Fa), (.glo "_law_asked" : He.Fa), (.glo "_law_bag" : He.Fa), (.glo "_law_due" : He.Fa), (.glo "_law_is_name" : He.Fa), (.glo "_law_is_row" : He.Fa), (.glo "_law_is_step" : He.Fa), (.glo "_law_number" : He.Fa), (.glo "_law_some_hours" : He.Fa), (.glo "_law_some_step" : He.Fa), (.glo "_law_some_text" : He.Fa), (.glo "_law_take" : He.Fa), (.glo "_law_thing" : He.Fa), (.glo "_law_within" : He.Fa), (.glo "are_hours" : He.Fa), (.glo "is_moment" : He.Fa), (.glo "is_name" : He.Fa), (.glo "is_room" : He.Fa), (.glo "is_row" : He.Fa), (.glo "is_shift" : He.Fa), (.glo "is_size" : He.Fa), (.glo "is_sort" : He.Fa), (.glo "is_step" : He.Fa), (.glo "is_strength" : He.Fa), (.glo "is_whole" : He.Fa), (.glo "is_within" : He.Fa), (.int "DAY" (24) : He.Fa), (.int "LONGEST_NAME" (8) : He.Fa), (.int "LONGEST_ROW" (200) : He.Fa), (.int "MOST_MOMENT" (10 ^ 30) : He.Fa), (.int "MOST_ROOM" (10 ^ 12) : He.Fa), (.int "MOST_STRENGTH" (10 ^ 9) : He.Fa), (.str "LETTERS" "abcdefghijklmnopqrstuvwxyz" : He.Fa), (.glo "law" : He.Fa)]
def ex (K : PySem.W.Frag) : Bool := sysB K
abbrev R : PySem.W.OpenRow := PySem.W.OpenLaw.row PySem.Challenge.rw_wanehold_k11_kinds_told
abbrev hk : PySem.W.Hook := hookZ 6 fa fn ex
def ob (s : PySem.W.SharedT) : AlX := obsZG 6 fa fn ex (HandSHeadRun.getT s)
theorem ob_eq (s : PySem.W.SharedT) : ob s = hk.obs s.abs := obsZG_eq (HandSHeadRun.getT_eq s)
theorem run (w : PySem.World) : HandSHeadRun.RunEq R (PySem.W.view R.prog [35]) hk ob 2500 [("LETTERS" : PySem.Str), ("MOST_STRENGTH" : PySem.Str), ("MOST_ROOM" : PySem.Str), ("MOST_MOMENT" : PySem.Str), ("LONGEST_NAME" : PySem.Str), ("LONGEST_ROW" : PySem.Str), ("DAY" : PySem.Str), ("is_whole" : PySem.Str), ("is_within" : PySem.Str), ("is_name" : PySem.Str), ("is_sort" : PySem.Str), ("is_strength" : PySem.Str), ("is_size" : PySem.Str), ("is_shift" : PySem.Str), ("is_room" : PySem.Str), ("is_moment" : PySem.Str), ("are_hours" : PySem.Str), ("is_row" : PySem.Str), ("is_step" : PySem.Str), ("_law_bag" : PySem.Str), ("_law_take" : PySem.Str), ("_law_within" : PySem.Str), ("_law_is_step" : PySem.Str), ("_law_is_name" : PySem.Str), ("_law_are_hours" : PySem.Str), ("_law_is_row" : PySem.Str), ("_law_number" : PySem.Str), ("_law_some_text" : PySem.Str), ("_law_some_hours" : PySem.Str), ("_law_some_step" : PySem.Str), ("_law_thing" : PySem.Str), ("_law_asked" : PySem.Str), ("_law_due" : PySem.Str)] w := by
  intro os
  kernel_rfl
theorem facts {P : Program} {w : PySem.World} {K : PySem.W.Frag} {h : Heap} {mg : Str → Option Value} {f : Addr} (X : K.In h) (G : h.Ns mainGlobals mg) (hfa : mg ("law" : Str) = some (.ref f)) (c : SaysX fa fn ex K) :
    ∃ fd : FuncData, (∀ (s : Shared) (v : Value), BindsTo s fd ⟨[v], []⟩ [("_law_script", v)]) ∧ ∀ base : Heap, K.In base → base.Ns mainGlobals mg → FnG P w K mg base CX0 6 f fd ["_law_script"] (spLaw K) := by
  cases hfa.symm.trans (He.glo_ok X G (c.d.fact 44 (f := .glo "law") rfl))
  have x0 := c.x
  have T : T K mg := ⟨He.free_ok X G (c.d.fact 0 (f := .free "abs") rfl), He.free_ok X G (c.d.fact 1 (f := .free "all") rfl), He.free_ok X G (c.d.fact 2 (f := .free "bool") rfl), He.free_ok X G (c.d.fact 3 (f := .free "int") rfl), He.free_ok X G (c.d.fact 4 (f := .free "isinstance") rfl), He.free_ok X G (c.d.fact 5 (f := .free "len") rfl), He.free_ok X G (c.d.fact 6 (f := .free "list") rfl), He.free_ok X G (c.d.fact 7 (f := .free "range") rfl), He.free_ok X G (c.d.fact 8 (f := .free "repr") rfl), He.free_ok X G (c.d.fact 9 (f := .free "str") rfl), He.free_ok X G (c.d.fact 10 (f := .free "tuple") rfl), He.glo_ok X G (c.d.fact 11 (f := .glo "_law_are_hours") rfl), He.glo_ok X G (c.d.fact 12 (f := .glo "_law_asked") rfl), He.glo_ok X G (c.d.fact 13 (f := .glo "_law_bag") rfl), He.glo_ok X G (c.d.fact 14 (f := .glo "_law_due") rfl), He.glo_ok X G (c.d.fact 15 (f := .glo "_law_is_name") rfl), He.glo_ok X G (c.d.fact 16 (f := .glo "_law_is_row") rfl), He.glo_ok X G (c.d.fact 17 (f := .glo "_law_is_step") rfl), He.glo_ok X G (c.d.fact 18 (f := .glo "_law_number") rfl), He.glo_ok X G (c.d.fact 19 (f := .glo "_law_some_hours") rfl), He.glo_ok X G (c.d.fact 20 (f := .glo "_law_some_step") rfl), He.glo_ok X G (c.d.fact 21 (f := .glo "_law_some_text") rfl), He.glo_ok X G (c.d.fact 22 (f := .glo "_law_take") rfl), He.glo_ok X G (c.d.fact 23 (f := .glo "_law_thing") rfl), He.glo_ok X G (c.d.fact 24 (f := .glo "_law_within") rfl), He.glo_ok X G (c.d.fact 25 (f := .glo "are_hours") rfl), He.glo_ok X G (c.d.fact 26 (f := .glo "is_moment") rfl), He.glo_ok X G (c.d.fact 27 (f := .glo "is_name") rfl), He.glo_ok X G (c.d.fact 28 (f := .glo "is_room") rfl), He.glo_ok X G (c.d.fact 29 (f := .glo "is_row") rfl), He.glo_ok X G (c.d.fact 30 (f := .glo "is_shift") rfl), He.glo_ok X G (c.d.fact 31 (f := .glo "is_size") rfl), He.glo_ok X G (c.d.fact 32 (f := .glo "is_sort") rfl), He.glo_ok X G (c.d.fact 33 (f := .glo "is_step") rfl), He.glo_ok X G (c.d.fact 34 (f := .glo "is_strength") rfl), He.glo_ok X G (c.d.fact 35 (f := .glo "is_whole") rfl), He.glo_ok X G (c.d.fact 36 (f := .glo "is_within") rfl), He.int_ok X G (c.d.fact 37 (f := .int "DAY" (24)) rfl), He.int_ok X G (c.d.fact 38 (f := .int "LONGEST_NAME" (8)) rfl), He.int_ok X G (c.d.fact 39 (f := .int "LONGEST_ROW" (200)) rfl), He.int_ok X G (c.d.fact 40 (f := .int "MOST_MOMENT" (10 ^ 30)) rfl), He.int_ok X G (c.d.fact 41 (f := .int "MOST_ROOM" (10 ^ 12)) rfl), He.int_ok X G (c.d.fact 42 (f := .int "MOST_STRENGTH" (10 ^ 9)) rfl), He.str_ok X G (c.d.fact 43 (f := .str "LETTERS" "abcdefghijklmnopqrstuvwxyz") rfl), sysB_ok x0⟩
  obtain ⟨fd_l_bag, D_l_bag⟩ := c.d.def_ 0 (d := d_l_bag) rfl
  obtain ⟨fd_l_take, D_l_take⟩ := c.d.def_ 1 (d := d_l_take) rfl
  obtain ⟨fd_l_number, D_l_number⟩ := c.d.def_ 2 (d := d_l_number) rfl
  obtain ⟨fd_l_some_text, D_l_some_text⟩ := c.d.def_ 3 (d := d_l_some_text) rfl
  obtain ⟨fd_l_some_hours, D_l_some_hours⟩ := c.d.def_ 4 (d := d_l_some_hours) rfl
  obtain ⟨fd_l_some_step, D_l_some_step⟩ := c.d.def_ 5 (d := d_l_some_step) rfl
  obtain ⟨fd_l_thing, D_l_thing⟩ := c.d.def_ 6 (d := d_l_thing) rfl
  obtain ⟨fd_is_whole, D_is_whole⟩ := c.d.def_ 7 (d := d_is_whole) rfl
  obtain ⟨fd_is_name, D_is_name⟩ := c.d.def_ 8 (d := d_is_name) rfl
  obtain ⟨fd_is_within, D_is_within⟩ := c.d.def_ 9 (d := d_is_within) rfl
  obtain ⟨fd_is_sort, D_is_sort⟩ := c.d.def_ 10 (d := d_is_sort) rfl
  obtain ⟨fd_is_strength, D_is_strength⟩ := c.d.def_ 11 (d := d_is_strength) rfl
  obtain ⟨fd_is_size, D_is_size⟩ := c.d.def_ 12 (d := d_is_size) rfl
  obtain ⟨fd_is_shift, D_is_shift⟩ := c.d.def_ 13 (d := d_is_shift) rfl
  obtain ⟨fd_is_room, D_is_room⟩ := c.d.def_ 14 (d := d_is_room) rfl
  obtain ⟨fd_is_moment, D_is_moment⟩ := c.d.def_ 15 (d := d_is_moment) rfl
  obtain ⟨fd_are_hours, D_are_hours⟩ := c.d.def_ 16 (d := d_are_hours) rfl
  obtain ⟨fd_is_row, D_is_row⟩ := c.d.def_ 17 (d := d_is_row) rfl
  obtain ⟨fd_is_step, D_is_step⟩ := c.d.def_ 18 (d := d_is_step) rfl
  obtain ⟨fd_l_asked, D_l_asked⟩ := c.d.def_ 19 (d := d_l_asked) rfl
  obtain ⟨fd_l_is_name, D_l_is_name⟩ := c.d.def_ 20 (d := d_l_is_name) rfl
  obtain ⟨fd_l_within, D_l_within⟩ := c.d.def_ 21 (d := d_l_within) rfl
  obtain ⟨fd_l_are_hours, D_l_are_hours⟩ := c.d.def_ 22 (d := d_l_are_hours) rfl
  obtain ⟨fd_l_is_row, D_l_is_row⟩ := c.d.def_ 23 (d := d_l_is_row) rfl
  obtain ⟨fd_l_is_step, D_l_is_step⟩ := c.d.def_ 24 (d := d_l_is_step) rfl
  obtain ⟨fd_l_due, D_l_due⟩ := c.d.def_ 25 (d := d_l_due) rfl
  obtain ⟨fd_law, D_law⟩ := c.d.def_ 26 (d := d_law) rfl
  refine ⟨fd_law, fun s v => FunD.bindsA (ps := ["_law_script"]) D_law (fun _ _ _ _ _ _ us hl => match us, hl with | [_], _ => rfl) s [v] rfl, fun base _ _ => ?_⟩
  have G_l_bag : Fd_l_bag K (He.ga K "_law_bag") fd_l_bag ∧ FnG P w K mg base CX0 1 (He.ga K "_law_bag") fd_l_bag ["_law_script"] (spBag K) := ⟨D_l_bag, ok_l_bag T  D_l_bag⟩
  have G_l_take : Fd_l_take K (He.ga K "_law_take") fd_l_take ∧ FnG P w K mg base CX0 1 (He.ga K "_law_take") fd_l_take ["_law_bag_here", "_law_many"] (liftB K F_l_take) := ⟨D_l_take, ok_l_take T  D_l_take⟩
  have G_l_number : Fd_l_number K (He.ga K "_law_number") fd_l_number ∧ FnG P w K mg base CX0 2 (He.ga K "_law_number") fd_l_number ["_law_bag_here"] (lift K (F_l_number K)) := ⟨D_l_number, ok_l_number T G_l_take D_l_number⟩
  have G_l_some_text : Fd_l_some_text K (He.ga K "_law_some_text") fd_l_some_text ∧ FnG P w K mg base CX0 2 (He.ga K "_law_some_text") fd_l_some_text ["_law_bag_here", "_law_signs", "_law_most"] (lift K (F_l_some_text K)) := ⟨D_l_some_text, ok_l_some_text T G_l_take D_l_some_text⟩
  have G_l_some_hours : Fd_l_some_hours K (He.ga K "_law_some_hours") fd_l_some_hours ∧ FnG P w K mg base CX0 2 (He.ga K "_law_some_hours") fd_l_some_hours ["_law_bag_here"] (lift K (F_l_some_hours K)) := ⟨D_l_some_hours, ok_l_some_hours T G_l_take D_l_some_hours⟩
  have G_l_some_step : Fd_l_some_step K (He.ga K "_law_some_step") fd_l_some_step ∧ FnG P w K mg base CX0 3 (He.ga K "_law_some_step") fd_l_some_step ["_law_bag_here"] (lift K (F_l_some_step K)) := ⟨D_l_some_step, ok_l_some_step T G_l_number G_l_take D_l_some_step⟩
  have G_l_thing : Fd_l_thing K (He.ga K "_law_thing") fd_l_thing ∧ FnG P w K mg base CX0 4 (He.ga K "_law_thing") fd_l_thing ["_law_bag_here"] (lift K (F_l_thing K)) := ⟨D_l_thing, ok_l_thing T G_l_take G_l_number G_l_some_text G_l_some_hours G_l_some_step D_l_thing⟩
  have G_is_whole : Fd_is_whole K (He.ga K "is_whole") fd_is_whole ∧ FnG P w K mg base CX0 1 (He.ga K "is_whole") fd_is_whole ["thing"] (Wn.lift K pureM (F_is_whole K)) := ⟨D_is_whole, ok_is_whole T  D_is_whole⟩
  have G_is_name : Fd_is_name K (He.ga K "is_name") fd_is_name ∧ FnG P w K mg base CX0 1 (He.ga K "is_name") fd_is_name ["thing"] (lift K (F_is_name K)) := ⟨D_is_name, ok_is_name T  D_is_name⟩
  have G_is_within : Fd_is_within K (He.ga K "is_within") fd_is_within ∧ FnG P w K mg base CX0 2 (He.ga K "is_within") fd_is_within ["thing", "least", "most"] (Wn.lift K pureM (F_is_within K)) := ⟨D_is_within, ok_is_within T G_is_whole D_is_within⟩
  have G_is_sort : Fd_is_sort K (He.ga K "is_sort") fd_is_sort ∧ FnG P w K mg base CX0 3 (He.ga K "is_sort") fd_is_sort ["thing"] (lift K (F_is_sort K)) := ⟨D_is_sort, ok_is_sort T G_is_within D_is_sort⟩
  have G_is_strength : Fd_is_strength K (He.ga K "is_strength") fd_is_strength ∧ FnG P w K mg base CX0 3 (He.ga K "is_strength") fd_is_strength ["thing"] (Wn.lift K pureM (F_is_strength K)) := ⟨D_is_strength, ok_is_strength T G_is_within D_is_strength⟩
  have G_is_size : Fd_is_size K (He.ga K "is_size") fd_is_size ∧ FnG P w K mg base CX0 3 (He.ga K "is_size") fd_is_size ["thing"] (Wn.lift K pureM (F_is_size K)) := ⟨D_is_size, ok_is_size T G_is_within D_is_size⟩
  have G_is_shift : Fd_is_shift K (He.ga K "is_shift") fd_is_shift ∧ FnG P w K mg base CX0 3 (He.ga K "is_shift") fd_is_shift ["thing"] (lift K (F_is_shift K)) := ⟨D_is_shift, ok_is_shift T G_is_within D_is_shift⟩
  have G_is_room : Fd_is_room K (He.ga K "is_room") fd_is_room ∧ FnG P w K mg base CX0 3 (He.ga K "is_room") fd_is_room ["thing"] (lift K (F_is_room K)) := ⟨D_is_room, ok_is_room T G_is_within D_is_room⟩
  have G_is_moment : Fd_is_moment K (He.ga K "is_moment") fd_is_moment ∧ FnG P w K mg base CX0 3 (He.ga K "is_moment") fd_is_moment ["thing"] (Wn.lift K pureM (F_is_moment K)) := ⟨D_is_moment, ok_is_moment T G_is_within D_is_moment⟩
  have G_are_hours : Fd_are_hours K (He.ga K "are_hours") fd_are_hours ∧ FnG P w K mg base CX0 3 (He.ga K "are_hours") fd_are_hours ["thing"] (lift K (F_are_hours K)) := ⟨D_are_hours, ok_are_hours T G_is_within D_are_hours⟩
  have G_is_row : Fd_is_row K (He.ga K "is_row") fd_is_row ∧ FnG P w K mg base CX0 1 (He.ga K "is_row") fd_is_row ["thing"] (Wn.lift K pureM (F_is_row K)) := ⟨D_is_row, ok_is_row T  D_is_row⟩
  have G_is_step : Fd_is_step K (He.ga K "is_step") fd_is_step ∧ FnG P w K mg base CX0 4 (He.ga K "is_step") fd_is_step ["thing"] (lift K (F_is_step K)) := ⟨D_is_step, ok_is_step T G_is_within G_is_size D_is_step⟩
  have G_l_asked : Fd_l_asked K (He.ga K "_law_asked") fd_l_asked ∧ FnG P w K mg base CX0 5 (He.ga K "_law_asked") fd_l_asked ["_law_thing_here"] (lift K (F_l_asked K)) := ⟨D_l_asked, ok_l_asked T G_is_strength G_is_sort G_is_name G_is_whole G_is_moment G_is_room G_is_shift G_is_size G_is_step G_is_row G_are_hours D_l_asked⟩
  have G_l_is_name : Fd_l_is_name K (He.ga K "_law_is_name") fd_l_is_name ∧ FnG P w K mg base CX0 1 (He.ga K "_law_is_name") fd_l_is_name ["_law_thing_here"] (lift K (F_l_is_name K)) := ⟨D_l_is_name, ok_l_is_name T  D_l_is_name⟩
  have G_l_within : Fd_l_within K (He.ga K "_law_within") fd_l_within ∧ FnG P w K mg base CX0 1 (He.ga K "_law_within") fd_l_within ["_law_thing_here", "_law_low", "_law_high"] (lift K (F_l_within K)) := ⟨D_l_within, ok_l_within T  D_l_within⟩
  have G_l_are_hours : Fd_l_are_hours K (He.ga K "_law_are_hours") fd_l_are_hours ∧ FnG P w K mg base CX0 2 (He.ga K "_law_are_hours") fd_l_are_hours ["_law_thing_here"] (lift K (F_l_are_hours K)) := ⟨D_l_are_hours, ok_l_are_hours T G_l_within D_l_are_hours⟩
  have G_l_is_row : Fd_l_is_row K (He.ga K "_law_is_row") fd_l_is_row ∧ FnG P w K mg base CX0 1 (He.ga K "_law_is_row") fd_l_is_row ["_law_thing_here"] (lift K (F_l_is_row K)) := ⟨D_l_is_row, ok_l_is_row T  D_l_is_row⟩
  have G_l_is_step : Fd_l_is_step K (He.ga K "_law_is_step") fd_l_is_step ∧ FnG P w K mg base CX0 2 (He.ga K "_law_is_step") fd_l_is_step ["_law_thing_here"] (lift K (F_l_is_step K)) := ⟨D_l_is_step, ok_l_is_step T G_l_within D_l_is_step⟩
  have G_l_due : Fd_l_due K (He.ga K "_law_due") fd_l_due ∧ FnG P w K mg base CX0 3 (He.ga K "_law_due") fd_l_due ["_law_thing_here"] (lift K (F_l_due K)) := ⟨D_l_due, ok_l_due T G_l_within G_l_is_name G_l_is_step G_l_is_row G_l_are_hours D_l_due⟩
  exact ok_law T G_l_bag G_l_thing G_l_asked G_l_due D_law
end Wn.Y.L11
open PySem PySem.W PySem.Calls PyProof.Rows
theorem PySem.Challenge.cw_wanehold_k11_kinds_told_holds : PySem.Challenge.rw_wanehold_k11_kinds_told.Holds := by
  w_on; o_law
  refine HandSHeadRun.head_any (r := OpenLaw.row PySem.Challenge.rw_wanehold_k11_kinds_told) (q := view (OpenLaw.row PySem.Challenge.rw_wanehold_k11_kinds_told).prog [35]) (H := Wn.Y.L11.hk) (ob := Wn.Y.L11.ob) (M := 2500) (loose := [("LETTERS" : PySem.Str), ("MOST_STRENGTH" : PySem.Str), ("MOST_ROOM" : PySem.Str), ("MOST_MOMENT" : PySem.Str), ("LONGEST_NAME" : PySem.Str), ("LONGEST_ROW" : PySem.Str), ("DAY" : PySem.Str), ("is_whole" : PySem.Str), ("is_within" : PySem.Str), ("is_name" : PySem.Str), ("is_sort" : PySem.Str), ("is_strength" : PySem.Str), ("is_size" : PySem.Str), ("is_shift" : PySem.Str), ("is_room" : PySem.Str), ("is_moment" : PySem.Str), ("are_hours" : PySem.Str), ("is_row" : PySem.Str), ("is_step" : PySem.Str), ("_law_bag" : PySem.Str), ("_law_take" : PySem.Str), ("_law_within" : PySem.Str), ("_law_is_step" : PySem.Str), ("_law_is_name" : PySem.Str), ("_law_are_hours" : PySem.Str), ("_law_is_row" : PySem.Str), ("_law_number" : PySem.Str), ("_law_some_text" : PySem.Str), ("_law_some_hours" : PySem.Str), ("_law_some_step" : PySem.Str), ("_law_thing" : PySem.Str), ("_law_asked" : PySem.Str), ("_law_due" : PySem.Str)]) (d := HandSHeadRun.topDef (OpenLaw.row PySem.Challenge.rw_wanehold_k11_kinds_told).prog 35) (kwd := []) Wn.Y.L11.ob_eq
    (by kernel_rfl) (fun s => by kernel_rfl) Wn.Y.L11.run (by kernel_rfl) (by kernel_rfl) (by kernel_rfl) (by rfl) (by first | assumption | decide +kernel) (by decide +kernel) ⟨rfl, rfl, rfl, rfl, rfl, by decide +kernel⟩ ?hw ?hc
  case hw => w_witness2
  case hc =>
    refine Wn.walk_G (l := PySem.Challenge.rw_wanehold_k11_kinds_told) (k := 6) (x := "_law_script") rfl (by kernel_rfl) ⟨rfl, by decide, by decide⟩ ?F
    intro w mg fa h Y G hmg0
    obtain ⟨K, KX, c⟩ := Y
    have hmg : mg ("law" : PySem.Str) = some (.ref fa) := by
      have e : (HandSHeadRun.topDef (OpenLaw.row PySem.Challenge.rw_wanehold_k11_kinds_told).prog 35).name = ("law" : PySem.Str) := by kernel_rfl
      rw [← e]
      exact hmg0
    obtain ⟨fd, hb, hF⟩ := Wn.Y.L11.facts (P := (PySem.Challenge.rw_wanehold_k11_kinds_told).prog) (w := w) KX G hmg c
    exact ⟨K, fd, KX, hb, hF⟩
