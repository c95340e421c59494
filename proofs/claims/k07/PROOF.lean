import PyProof.Rows.All
import Wide.All
import OpenK.AllK
import Wide.FinOn
import HandS.ForMost
import HandS.Wide
import HandS.IsInst
import PyProof.ReprRoads
import HandS.Walk
import HandS.Zip
import HandS.TupAny
import HandS.SortInts
import HandS.More
import PyProof.StrLawsRepr
import PySem.Challenge.RW_overlapcode_k07_least_sums_by_plain_addi
set_option Elab.async false
set_option linter.all false
set_option maxRecDepth 100000
set_option maxHeartbeats 4000000
namespace Ov
open PySem PySem.Spec PyProof.Rows L2

/-! ### calls where no repr is under way -/
structure Rm (k : Nat) (A : Around) : Prop where
  r : Room k A
  g : A.guards = some []
theorem Rm.mono {j k : Nat} {A : Around} (h : Rm k A) (l : j ≤ k) : Rm j A := ⟨h.r.mono l, h.g⟩
theorem Rm.deeper {k : Nat} {A : Around} (h : Rm (k + 1) A) (env : Env) : Rm k (A.deeper env) := ⟨h.r.deeper env, h.g⟩
theorem mk_guards {A : Around} {C : Addr} {us : List Value} {kw : List (Str × Value)} :
    (A.under (.builtin "type.__call__" ⟨.ref C :: us, kw⟩)).guards = A.guards := by
  simp [Around.under, Code.guards, Code.isGuard, guardIds, pushGuards]
theorem Rm.make {k : Nat} {A : Around} (h : Rm (k + 1) A) (C : Addr) (us : List Value) (kw : List (Str × Value)) :
    Rm k (A.under (.builtin "type.__call__" ⟨.ref C :: us, kw⟩)) := ⟨h.r.make C us kw, by rw [mk_guards]; exact h.g⟩

structure FnG (P : Program) (w : World) (K : PySem.W.Frag) (mg : Str → Option Value) (base : Heap) (CX : CXT) (k : Nat)
    (f : Addr) (fd : FuncData) (ps : List Str) (sp : Sp) : Prop where
  len : ∀ vs H Q E, sp vs H Q E → vs.length = ps.length
  run : ∀ (A : Around) (outer : List Env) (s : Shared) (H : Hp) (args : Args) (us : List Value) (vs : List V) (Q : VK) (E : XK),
    Rm k A → Env0 P w K mg base A outer s H → BindsTo s fd args (ps.zip us) → Vals vs us → sp vs H Q E →
    codeAny (model P w) A (.call (.ref f) args) (CR CX outer P w H s Q E) s

section
variable {P : Program} {w : World} {K : PySem.W.Frag} {mg : Str → Option Value} {base : Heap} {CX : CXT} {k : Nat} {f : Addr}

theorem fnG_of {name qual : Str} {params : Arguments} {body : List Stmt} {scope : Scope} {dV kV doc pm cdv ct oc : Value}
    {an od : Option Addr} {osl : Array (Option Value)} {N ps : List Str} {sp : Sp}
    (lk : K.lookup f = some ⟨oc, od, .func (PySem.W.fnOf name qual params body scope dV kV doc pm an cdv ct), osl⟩)
    (hcd : PySem.W.codeIn K cdv qual = true) (S : FnScope N ps scope) (len : ∀ vs H Q E, sp vs H Q E → vs.length = ps.length)
    (hbody : ∀ (A : Around) (outer : List Env) (s : Shared) (H : Hp) (vs : List V) (Q : VK) (E : XK),
      Rm k (A.deeper (envOfC qual scope s.heap.objs.size f cdv)) → sp vs H Q E →
      ∃ t, PSs (cxOf CX P w K mg base N qual scope f cdv A outer s H E) body t ∧
        t { nx := fun _ H' => Q .non H', rt := Q } (start N vs) H) :
    FnG P w K mg base CX (k + 1) f (PySem.W.fnOf name qual params body scope dV kV doc pm an cdv ct) ps sp := by
  constructor
  · exact len
  intro A outer s H args us vs Q E hr e0 hb rv hsp
  have kx : K.In s.heap := e0.mod.kin.keeps (fun b o e => (e0.bs b o e).1)
  have nl : s.heap.NoLimit := e0.mod.nolimit.keeps (fun b o e => (e0.bs b o e).1)
  have hkd : ∀ y ∈ ps.zip us, scope.names.lookup y.1 = some .local ∨
      (scope.names.lookup y.1 = some .cell ∧ ((cellsFrom (s.heap.objs.size + 1) scope.names []).lookup y.1).isSome = true) := by
    rintro ⟨n, v⟩ hy
    exact (S.par n (List.of_mem_zip hy).1).elim Or.inl (fun q => Or.inr ⟨q, PySem.W.cellsFrom_some _ _ _ (.inl q)⟩)
  refine codeAny_call_function hr.r.depth (kx _ _ lk) rfl S.co S.gen rfl (PySem.W.codeRec_of kx hcd) (hb _ _ _ _ ?_)
  refine wpAny_newFunctionEnv_cells S.kind hkd ?_
  intro env he s1 x
  subst he
  constructor
  · exact nl.keeps x.toInCall.keep
  apply codeAny_func
  obtain ⟨t, ht, hq⟩ := hbody A outer s H vs Q E (hr.deeper _) hsp
  have I := inv_start (CX := CX) (E := E) S hr.r.hd e0 (len _ _ _ _ hsp) rv x
  refine wpAny_mono (ht.run [] s1 (start N vs) H _ I hq) ?_ (fun e s' hs => hs)
  intro fl s' hs
  cases fl with
  | ret u =>
    obtain ⟨v, σ', H', J, r1, q⟩ := hs
    exact ⟨v, H', J.os, J.bare, J.base, J.hok, r1, q⟩
  | next =>
    obtain ⟨σ', H', J, q⟩ := hs
    exact ⟨V.non, H', J.os, J.bare, J.base, J.hok, rfl, q⟩
  | brk => exact hs.elim fun _ h => h.elim fun _ h => False.elim h.2
  | cont => exact hs.elim fun _ h => h.elim fun _ h => False.elim h.2

theorem FnG.mono {j : Nat} {fd : FuncData} {ps : List Str} {sp : Sp} (F : FnG P w K mg base CX j f fd ps sp) (h : j ≤ k) :
    FnG P w K mg base CX k f fd ps sp := ⟨F.len, fun A o s H a us vs Q E hr => F.run A o s H a us vs Q E (hr.mono h)⟩
end

section
variable {X : Cx} {CX : CXT} {k : Nat} {f C : Addr} {fd : FuncData} {ps : List Str} {sp : Sp} {dvs : List V} {ds : List Value} {E : XK}
  {x m : Str} {p pos apos : Pos} {e o : Expr} {es : List Expr} {ta : TE} {t : TA}

theorem runG {pins : List (Addr × Obj)} {σ : L2.St} {H : Hp} {s : Shared} {Q : VK} {us : List Value} {vs : List V}
    (F : FnG X.prog X.w X.K X.mg X.base CX k f fd ps sp) (hr : Rm k X.A) (hb : Binds X.K fd ps ds) (hd : Vals dvs ds) (hx : Passes CX X E)
    (I : Inv X pins σ H s) (r : Vals vs us) (h : sp (vs ++ dvs) H Q E) :
    wpAny (model X.prog X.w) X.A (call (.ref f) us) (EP X pins σ Q) X.xe s := by
  have r2 : Vals (vs ++ dvs) (us ++ ds) := r.append hd
  have hl : (us ++ ds).length = ps.length := by rw [← r2.length]; exact F.len _ _ _ _ h
  apply wpAny_call
  refine codeAny_mono (F.run X.A X.stack s H ⟨us, []⟩ (us ++ ds) (vs ++ dvs) Q E hr I.env0 (hb s us I.kIn hl) r2 h) ?_
  intro r s' hq
  match r, hq with
  | .error e, hq => exact hx pins σ H s e s' I hq
  | .ok (.ret u), hq => exact I.after hq

theorem peG_call (F : FnG X.prog X.w X.K X.mg X.base CX k f fd ps sp) (hr : Rm k X.A) (hg : Gl X x) (hm : X.mg x = some (.ref f))
    (hk : PySem.W.keepIn X.K (.ref f) = true) (hb : Binds X.K fd ps ds) (hd : Vals dvs ds) (hx : Passes CX X E)
    (ha : PA X (e :: es) t) (hdb : (x == ("__debug__" : Str)) = false := by decide)
    (he : starEach (e :: es) X.env = (false, eval e X.env) :: starEach es X.env := by rfl)
    (hpl : (backTo pos (starEach es X.env)).any (·.1) = false := by rfl) :
    PE X (.Call (.Name x p) (e :: es) [] pos) (tCall sp dvs E t) := by
  constructor
  intro pins s σ H Q I h
  refine wpAny_Call_Name_kw (ld_glob I hg hm ?_ hdb)
  refine PySem.W.callWith_K (h₀ := X.base) I.ok.mod.kin hk ?_ he hpl
  refine thn (ha.run pos pins s σ H _ I h) ?_
  rintro us s1 ⟨vs, H1, I1, r, q⟩
  exact ⟨I1.kIn, runG F hr hb hd hx I1 r q⟩
theorem peG_call0 (F : FnG X.prog X.w X.K X.mg X.base CX k f fd ps sp) (hr : Rm k X.A) (hg : Gl X x) (hm : X.mg x = some (.ref f))
    (hk : PySem.W.keepIn X.K (.ref f) = true) (hb : Binds X.K fd ps ds) (hd : Vals dvs ds) (hx : Passes CX X E)
    (hdb : (x == ("__debug__" : Str)) = false := by decide) : PE X (.Call (.Name x p) [] [] pos) (tCall sp dvs E tNil) := by
  constructor
  intro pins s σ H Q I h
  refine wpAny_Call_Name_kw (ld_glob I hg hm ?_ hdb)
  exact PySem.W.callWith_K0 I.kIn hk (runG (us := []) F hr hb hd hx I .nil h)

theorem peG_meth {pl : Sem Bool} (he : PE X o ta) (c : Cls X.K C) (hm : Meth X.K C m f) (F : FnG X.prog X.w X.K X.mg X.base CX k f fd ps sp)
    (hr : Rm k X.A) (hb : Binds X.K fd ps ds) (hd : Vals dvs ds) (hx : Passes CX X E) (ha : PA X (e :: es) t)
    (hst : starEach (e :: es) X.env = (false, eval e X.env) :: starEach es X.env := by rfl)
    (hpl : (backTo pos (starEach es X.env)).any (·.1) = false := by rfl)
    (ht : eval (.Call (.Attribute o m apos) (e :: es) [] pos) X.env = (do
      let ov ← eval o X.env
      standAt apos.atName
      let (f, first) ← holding [ov] (getMethod ov m pl)
      callWith pos f first (backTo pos (starEach (e :: es) X.env)) (backToKw pos (keywordEach [] X.env))) := by rfl) :
    PE X (.Call (.Attribute o m apos) (e :: es) [] pos) (tMeth C m sp dvs E ta t) := by
  constructor
  intro pins s σ H Q I h
  refine PySem.W.methodCall_KW (pl := pl) (thn (he.run pins s σ H _ I h) ?_) ht
  rintro u s1 ⟨x, H1, I1, rx, a, dx, fs, ex, ea, l, q⟩
  subst ex
  obtain rfl : u = Value.ref a := rx
  refine getmeth_ok I1 ea c hm l ?_
  refine PySem.W.callWith_K (first := [.ref a]) (h₀ := X.base) I.ok.mod.kin hm.kp ?_ hst hpl
  refine thn (ha.run pos pins s1 σ H1 _ I1 q) ?_
  rintro us s2 ⟨vs, H2, I2, r, q2⟩
  exact ⟨I2.kIn, runG (us := .ref a :: us) (vs := .ref a :: vs) F hr hb hd hx I2 (.cons rfl r) q2⟩
theorem peG_meth0 {pl : Sem Bool} (he : PE X o ta) (c : Cls X.K C) (hm : Meth X.K C m f) (F : FnG X.prog X.w X.K X.mg X.base CX k f fd ps sp)
    (hr : Rm k X.A) (hb : Binds X.K fd ps ds) (hd : Vals dvs ds) (hx : Passes CX X E)
    (ht : eval (.Call (.Attribute o m apos) [] [] pos) X.env = (do
      let ov ← eval o X.env
      standAt apos.atName
      let (f, first) ← holding [ov] (getMethod ov m pl)
      callWith pos f first (backTo pos (starEach [] X.env)) (backToKw pos (keywordEach [] X.env))) := by rfl) :
    PE X (.Call (.Attribute o m apos) [] [] pos) (tMeth C m sp dvs E ta tNil) := by
  constructor
  intro pins s σ H Q I h
  refine PySem.W.methodCall_KW (pl := pl) (thn (he.run pins s σ H _ I h) ?_) ht
  rintro u s1 ⟨x, H1, I1, rx, a, dx, fs, ex, ea, l, q⟩
  subst ex
  obtain rfl : u = Value.ref a := rx
  refine getmeth_ok I1 ea c hm l ?_
  exact PySem.W.callWith_K0 (first := [.ref a]) I1.kIn hm.kp
    (runG (us := [.ref a]) (vs := [.ref a]) F hr hb hd hx I1 (.cons rfl .nil) q)

theorem runG_make {pins : List (Addr × Obj)} {σ : L2.St} {H : Hp} {s : Shared} {Q : VK} {us : List Value} {vs : List V}
    (M : Mk X.K C f) (F : FnG X.prog X.w X.K X.mg X.base CX k f fd ps sp) (hr : Rm (k + 1) X.A) (hb : Binds X.K fd ps ds) (hd : Vals dvs ds)
    (hx : Passes CX X E) (I : Inv X pins σ H s) (r : Vals vs us)
    (h : ∀ x dx, H x = none → H dx = none → dx ≠ x →
      sp (.ref x :: (vs ++ dvs)) (upd (upd H dx (.own x)) x (.ins C dx [])) (fun v H2 => v = .non ∧ Q (.ref x) H2) E) :
    wpAny (model X.prog X.w) X.A (call (.ref C) us) (EP X pins σ Q) X.xe s := by
  have hq := h (s.heap.objs.size + 1) s.heap.objs.size (I.hok.fresh (Nat.le_succ _)) (I.hok.fresh (Nat.le_refl _))
    (Nat.ne_of_lt (Nat.lt_succ_self _))
  have I2 := Inv.made (C := C) I
  have r2 : Vals (V.ref (s.heap.objs.size + 1) :: (vs ++ dvs)) (Value.ref (s.heap.objs.size + 1) :: (us ++ ds)) := .cons rfl (r.append hd)
  have hl : (Value.ref (s.heap.objs.size + 1) :: us ++ ds).length = ps.length := by
    have e := r2.length
    rw [F.len _ _ _ _ hq] at e
    exact e.symm
  apply wpAny_call
  refine make_map (f := f) I.kIn M.makes M.init (beq_iff_eq.mp M.fn) ?_
  refine codeAny_mono (F.run _ X.stack _ _ ⟨Value.ref (s.heap.objs.size + 1) :: us, []⟩ (Value.ref (s.heap.objs.size + 1) :: (us ++ ds)) _ _ E
    (hr.make C us []) (I2.env0.make C us []) (hb _ (Value.ref (s.heap.objs.size + 1) :: us) I2.kIn hl) r2 hq) ?_
  intro r s' hq'
  match r, hq' with
  | .error e, hq' => exact hx pins σ _ _ e s' I2 hq'
  | .ok (.ret u), hq' =>
    obtain ⟨v, H', I3, rv, ev, q3⟩ := I2.after hq'
    subst ev
    exact ⟨rv, ⟨V.ref (s.heap.objs.size + 1), H', I3, rfl, q3⟩⟩
theorem peG_make (M : Mk X.K C f) (F : FnG X.prog X.w X.K X.mg X.base CX k f fd ps sp) (hr : Rm (k + 1) X.A) (hg : Gl X x)
    (hm : X.mg x = some (.ref C)) (hb : Binds X.K fd ps ds) (hd : Vals dvs ds) (hx : Passes CX X E)
    (ha : PA X (e :: es) t) (hdb : (x == ("__debug__" : Str)) = false := by decide)
    (he : starEach (e :: es) X.env = (false, eval e X.env) :: starEach es X.env := by rfl)
    (hpl : (backTo pos (starEach es X.env)).any (·.1) = false := by rfl) :
    PE X (.Call (.Name x p) (e :: es) [] pos) (tMake C sp dvs E t) := by
  constructor
  intro pins s σ H Q I h
  refine wpAny_Call_Name_kw (ld_glob I hg hm ?_ hdb)
  refine PySem.W.callWith_K (h₀ := X.base) I.ok.mod.kin M.kp ?_ he hpl
  refine thn (ha.run pos pins s σ H _ I h) ?_
  rintro us s1 ⟨vs, H1, I1, r, q⟩
  exact ⟨I1.kIn, runG_make M F hr hb hd hx I1 r q⟩
end

section
variable {X : Cx} {CX : CXT} {k : Nat} {f C : Addr} {fd : FuncData} {ps ks : List Str} {sp : Sp} {E : XK} {x m : Str} {p pos apos kpos : Pos}
  {e o : Expr} {es : List Expr} {kws : List Keyword} {te ta : TE} {t tk : TA} {g : List Value → List Value → List Value} {gV : List V → List V → List V}
theorem runGK {pins : List (Addr × Obj)} {σ : L2.St} {H : Hp} {s : Shared} {Q : VK} {us ws : List Value} {vs zs : List V}
    (F : FnG X.prog X.w X.K X.mg X.base CX k f fd ps sp) (hr : Rm k X.A) (hb : KBinds X.K fd ps ks g gV) (hx : Passes CX X E)
    (I : Inv X pins σ H s) (r : Vals vs us) (rz : Vals zs ws) (h : sp (gV vs zs) H Q E) :
    wpAny (model X.prog X.w) X.A (call (.ref f) us (ks.zip ws)) (EP X pins σ Q) X.xe s := by
  have r2 := hb.rel r rz
  have hl : (g us ws).length = ps.length := by rw [← r2.length]; exact F.len _ _ _ _ h
  apply wpAny_call
  refine codeAny_mono (F.run X.A X.stack s H ⟨us, ks.zip ws⟩ (g us ws) (gV vs zs) Q E hr I.env0 (hb.to s us ws I.kIn hl) r2 h) ?_
  intro r s' hq
  match r, hq with
  | .error e, hq => exact hx pins σ H s e s' I hq
  | .ok (.ret u), hq => exact I.after hq
theorem peG_callK (F : FnG X.prog X.w X.K X.mg X.base CX k f fd ps sp) (hr : Rm k X.A) (hg : Gl X x) (hm : X.mg x = some (.ref f))
    (hk : PySem.W.keepIn X.K (.ref f) = true) (hb : KBinds X.K fd ps ks g gV) (hx : Passes CX X E)
    (ha : PA X (e :: es) t) (hkw : PK X kws tk) (hall : (backToKw pos (keywordEach kws X.env)).all (·.1.isSome) = true := by rfl)
    (hks : (backToKw pos (keywordEach kws X.env)).filterMap (·.1) = ks := by rfl)
    (hdb : (x == ("__debug__" : Str)) = false := by decide)
    (he : starEach (e :: es) X.env = (false, eval e X.env) :: starEach es X.env := by rfl)
    (hpl : ((backTo pos (starEach (e :: es) X.env)).any (·.1) || (backToKw pos (keywordEach kws X.env)).any (·.1.isNone)) = false := by rfl) :
    PE X (.Call (.Name x p) (e :: es) kws pos) (tCallK sp gV E t tk) := by
  constructor
  intro pins s σ H Q I h
  refine wpAny_Call_Name_kw (ld_glob I hg hm ?_ hdb)
  refine PySem.W.callWith_KW (h₀ := X.base) I.ok.mod.kin hk hall ?_ hpl he
  refine thn (ha.run pos pins s σ H _ I h) ?_
  rintro us s1 ⟨vs, H1, I1, r, q⟩
  refine thn (hkw.run pos pins s1 σ H1 _ I1 q) ?_
  rintro ws s2 ⟨zs, H2, I2, rz, q2⟩
  refine ⟨I2.kIn, ?_⟩
  rw [hks]
  exact runGK F hr hb hx I2 r rz q2
end

section
variable {X : Cx} {CX : CXT} {k : Nat} {f C : Addr} {fd : FuncData} {ps ks : List Str} {sp : Sp} {E : XK} {x m : Str} {p pos apos kpos : Pos}
  {kws : List Keyword} {tk : TA} {g : List Value → List Value → List Value} {gV : List V → List V → List V}
theorem peG_callK0 (F : FnG X.prog X.w X.K X.mg X.base CX k f fd ps sp) (hr : Rm k X.A) (hg : Gl X x) (hm : X.mg x = some (.ref f))
    (hk : PySem.W.keepIn X.K (.ref f) = true) (hb : KBinds X.K fd ps ks g gV) (hx : Passes CX X E)
    (hkw : PK X kws tk) (hall : (backToKw pos (keywordEach kws X.env)).all (·.1.isSome) = true := by rfl)
    (hks : (backToKw pos (keywordEach kws X.env)).filterMap (·.1) = ks := by rfl)
    (hdb : (x == ("__debug__" : Str)) = false := by decide)
    (hpl : ((backTo pos (starEach [] X.env)).any (·.1) || (backToKw pos (keywordEach kws X.env)).any (·.1.isNone)) = false := by rfl) :
    PE X (.Call (.Name x p) [] kws pos) (tCallK sp gV E tNil tk) := by
  constructor
  intro pins s σ H Q I h
  refine wpAny_Call_Name_kw (ld_glob I hg hm ?_ hdb)
  refine PySem.W.callWith_KW0 (h₀ := X.base) I.ok.mod.kin hk hall ?_ hpl
  refine thn (hkw.run pos pins s σ H _ I h) ?_
  rintro ws s2 ⟨zs, H2, I2, rz, q2⟩
  refine ⟨I2.kIn, ?_⟩
  rw [hks]
  exact runGK (us := []) (vs := []) F hr hb hx I2 .nil rz q2
end

/-! ### repr of data -/
mutual
theorem noDict {K : PySem.W.Frag} {H : Hp} : ∀ (d : PyData) {x : V}, Dp K H x d → d.hasDict = false
  | .none, _, _ => rfl
  | .bool _, _, _ => rfl
  | .int _, _, _ => rfl
  | .str _, _, _ => rfl
  | .list ds, _, h => by cases h with | lst _ ha => simpa [PyData.hasDict] using noDictAll ds ha
  | .tuple ds, _, h => by cases h with | tup _ ha => simpa [PyData.hasDict] using noDictAll ds ha
  | .dict _, _, h => by cases h
theorem noDictAll {K : PySem.W.Frag} {H : Hp} : ∀ (ds : List PyData) {xs : List V}, DpAll K H xs ds → PyData.hasDictAll ds = false
  | [], _, _ => rfl
  | d :: ds, _, h => by cases h with | cons h1 h2 => simp [PyData.hasDictAll, noDict d h1, noDictAll ds h2]
end
theorem call_reprD {X : Cx} (hg : X.A.guards = some []) (hu : X.A.units + 64 < cLine) : CallR X (.builtin "repr") (fun xs H Q =>
    ∃ x d, xs = [x] ∧ Dp X.K H x d ∧ d.showable = true ∧ d.depth ≤ 60 ∧ d.shown.length ≤ sizeLine ∧ Q (.str d.shown) H) := by
  intro pins s σ H xs us Q I r h
  obtain ⟨x, d, rfl, hd, hs, hdp, hz, q⟩ := h
  cases r with
  | cons r0 r1 =>
  cases r1
  rename_i u
  obtain ⟨as, rd⟩ := Dp.reads I d x u hd r0
  have nd := noDict d hd
  cases hd with
  | non => cases r0; exact PySem.P.repr_of_none ⟨.str _, H, I.tok _, ⟨_, rfl⟩, q⟩
  | bl b => cases r0; exact PySem.P.repr_of_bool ⟨.str _, H, I.tok _, ⟨_, rfl⟩, q⟩
  | int i =>
    obtain ⟨t, rfl⟩ := r0
    exact PySem.P.repr_of_int (of_decide_eq_true hs) ⟨.str _, H, I.tok _, ⟨_, rfl⟩, q⟩
  | str z =>
    obtain ⟨t, rfl⟩ := r0
    exact PySem.P.repr_of_str ⟨.str _, H, I.tok _, ⟨_, rfl⟩, q⟩ hz
  | lst h1 h2 =>
    cases r0
    refine repr_of_reads' rd hs (fun z => by rw [nd] at z; cases z) hg (by omega) (fun _ _ e => e) ?_ hz
    intro h' u tk hk
    exact ⟨.str _, H, I.kept hk, ⟨_, rfl⟩, q⟩
  | tup h1 h2 =>
    cases r0
    refine repr_of_reads' rd hs (fun z => by rw [nd] at z; cases z) hg (by omega) (fun _ _ e => e) ?_ hz
    intro h' u tk hk
    exact ⟨.str _, H, I.kept hk, ⟨_, rfl⟩, q⟩
end Ov

set_option maxHeartbeats 4000000
namespace Ov
open PySem PySem.Spec PyProof.Rows L2

/-! ### the end of a law -/
theorem lawG {P : Program} {w : World} {K : PySem.W.Frag} {mg mb : Str → Option Value} {CX : CXT} {k : Nat} {fa a : Addr} {fd : FuncData}
    {x : Str} {sp : Sp} {s1 : Shared} {vs : List Value} {ns : List Int}
    (kx : K.In s1.heap) (hns : s1.heap.Ns mainGlobals mg) (hb : s1.heap.Ns builtinsNs mb)
    (hbb : ∀ x : Str, x ≠ "__name__" → mb x = bootBuiltins x) (hlim : s1.heap.NoLimit) (hg : s1.gens = #[])
    (ha : s1.heap.get? a = some { cls := .type "list", data := .seq vs.toArray }) (hi : IntsAre vs ns) (hl : ns.length ≤ sizeLine)
    (hr : Rm k callerA)
    (F : ∀ base : Heap, K.In base → base.Ns mainGlobals mg → FnG P w K mg base CX k fa fd [x] sp)
    (hbind : ∀ (s : Shared) (u : Value), BindsTo s fd ⟨[u], []⟩ [(x, u)])
    (hsp : ∀ H : Hp, Only H → SqL K H a (ns.map V.int) → sp [.ref a] H (fun v _ => v = .bl true) fun _ _ _ => False)
    (hCX : ∀ H e s', CX [] H s1 (fun _ _ _ => False) e s' → False) :
    codeAny (model P w) callerA (.call (.ref fa) ⟨[.ref a], []⟩)
      (fun r s' => r = .ok (.ret (.bool true)) ∧ OldK s1.heap s'.heap ∧ s'.os = s1.os ∧ AllBare s'.gens) s1 := by
  have rv := vals_ints hi
  have key : ∀ H : Hp, Only H → SqL K H a (ns.map V.int) → HOk P w H s1.heap → (∀ b, H b ≠ none → b = a) →
      (H a ≠ none → K.lookup a = none) →
      codeAny (model P w) callerA (.call (.ref fa) ⟨[.ref a], []⟩)
        (fun r s' => r = .ok (.ret (.bool true)) ∧ OldK s1.heap s'.heap ∧ s'.os = s1.os ∧ AllBare s'.gens) s1 := by
    intro H hO hS hok hA hK
    have tracked : ∀ {b : Addr}, H b = none ∨ b = a := by
      intro b
      cases q : H b with
      | none => exact Or.inl rfl
      | some u => exact Or.inr (hA b (by simp [q]))
    have nsK : ∀ {b : Addr} {m : Str → Option Value}, s1.heap.Ns b m → (hidT s1.heap H).Ns b m := by
      rintro b m ⟨o, es, ep, e, d, r⟩
      refine ⟨o, es, ep, hidT_get e ?_, d, r⟩
      rcases tracked (b := b) with z | z
      · exact z
      · subst z
        rw [ha] at e
        cases e
        cases (show Data.seq vs.toArray _ = Data.dict es ep from d)
    have kb : K.In (hidT s1.heap H) := by
      intro b o e
      refine hidT_get (kx b o e) ?_
      cases q : H b with
      | none => rfl
      | some u =>
        have z : b = a := hA b (by simp [q])
        subst z
        rw [hK (by simp [q])] at e
        cases e
    have hM : Mod K mg (hidT s1.heap H) := ⟨kb, nsK hns, ⟨mb, nsK hb, hbb⟩, let ⟨mc, h1, h2⟩ := hlim; ⟨mc, nsK h1, h2⟩⟩
    have e0 : Env0 P w K mg (hidT s1.heap H) callerA [] s1 H := by
      refine ⟨rfl, hM, fun b o e => of_hidT e, Nat.le_of_eq (hidT_size _ _), trivial, ?_, hok, .of_eq hg⟩
      intro b hb
      exact absurd (show b ∈ ([] : List Addr) from hb) List.not_mem_nil
    have run := (F _ kb (nsK hns)).run callerA [] s1 H ⟨[.ref a], []⟩ [.ref a] [.ref a] _ _ hr e0 (hbind s1 (.ref a)) (.cons rfl .nil) (hsp H hO hS)
    refine codeAny_mono run ?_
    intro r s' h
    match r, h with
    | .error e, h => exact (hCX H e s' h).elim
    | .ok (.ret u), h =>
      obtain ⟨v, H', os, bare, un, hok', r', q⟩ := h
      obtain rfl : v = .bl true := q
      obtain rfl : u = Value.bool true := r'
      refine ⟨rfl, OldK.of_keep ?_, os, bare⟩
      intro b o e
      rcases hO b with z | ⟨ob, xs, z⟩
      · exact un.keep b o e z (fun y => absurd (show b ∈ ([] : List Addr) from y) List.not_mem_nil) List.not_mem_nil
      · obtain ⟨e1, _⟩ := hok b _ z
        obtain ⟨e2, _⟩ := hok' b _ (un.frzs b ob _ z)
        rw [e] at e1
        cases e1
        exact e2
  cases hk : K.lookup a with
  | some o =>
    have e := kx a o hk
    rw [ha] at e
    cases e
    refine key (fun _ => none) (fun _ => .inl rfl) (.inr ⟨_, vs.toArray, _, hk, rfl, rfl, rfl, ?_, by simpa using rv⟩) ?_ (fun b z => absurd rfl z)
      (fun z => absurd rfl z)
    · rw [List.size_toArray, hi.length]
      exact hl
    · intro b u z
      cases (show (none : Option HO) = some u from z)
  | none =>
    refine key (fun b => if b = a then some (.frz { cls := .type "list", data := .seq vs.toArray } (.lst (ns.map V.int))) else none) ?_
      (.inl (.inr ⟨{ cls := .type "list", data := .seq vs.toArray }, if_pos rfl⟩)) ?_ ?_ (fun _ => hk)
    · intro b
      by_cases hb : b = a
      · exact .inr ⟨_, _, if_pos hb⟩
      · exact .inl (if_neg hb)
    · intro b u z
      by_cases hb : b = a
      · cases (if_pos hb).symm.trans z
        subst hb
        exact ⟨ha, by rw [List.length_map]; exact hl, vs, _, rv, ha⟩
      · cases (if_neg hb).symm.trans z
    · intro b z
      by_cases hb : b = a
      · exact hb
      · exact absurd (if_neg hb) z

/-- what a law's def must keep: a list of at most 63 ints is handed in, True comes out -/
def spLaw (K : PySem.W.Frag) : Sp := fun vs H Q _ => ∃ (a : Addr) (ns : List Int), vs = [.ref a] ∧ Only H ∧ SqL K H a (ns.map V.int) ∧ ns.length ≤ 63 ∧ ∀ H', Q (.bl true) H'

theorem room_caller : Rm 30 callerA := ⟨⟨rfl, by decide, by decide⟩, rfl⟩

theorem walkG {l : PySem.W.OpenLaw} {q : Program} {loose : List Str} {XP : (Str → Option Value) → Heap → Prop} {YP : World → Heap → Prop}
    {d : DefRec} {K : Params → PySem.W.Frag} {x : Str} (hn : l.most = some 63) (hdf : d.params.defaults = [])
    (hY : ∀ (w : World) (h : Heap), YP w h → (K w.params).In h)
    (F : ∀ (w : World) (mg : Str → Option Value) (fa : Addr) (h : Heap), (K w.params).In h → h.Ns mainGlobals mg → mg d.name = some (.ref fa) →
      ∃ fd : FuncData, (∀ (s : Shared) (u : Value), BindsTo s fd ⟨[u], []⟩ [(x, u)]) ∧
        ∀ base : Heap, (K w.params).In base → base.Ns mainGlobals mg →
          FnG l.prog w (K w.params) mg base CX0 30 fa fd [x] (spLaw (K w.params))) :
    PySem.W.WalkO q loose XP YP l.row.toRowW d [] (fun f vs => PySem.call f vs) := by
  refine Att.attach_call hn hdf ?_
  intro w s₀ s₁ mg mb fa o pm cd doc a vs ns G Y ho hd hcd hmg hobj hints hlen hg
  have kx := hY w _ Y
  obtain ⟨fd, hb, hF⟩ := F w mg fa _ kx G.T.g hmg
  refine lawG kx G.T.g G.T.b G.T.builtins G.T.nolimit hg hobj hints (Nat.le_trans hlen (by decide)) room_caller hF hb ?_ (fun _ _ _ z => z)
  intro H hO hS
  exact ⟨a, ns, rfl, hO, hS, hlen, fun _ => rfl⟩

/-! ### defs of the text -/
/-- a def of the module, without defaults -/
structure At (K : PySem.W.Frag) (mg : Str → Option Value) (x : Str) (st : Stmt) (f : Addr) (fd : FuncData) : Prop where
  fn : Fun K x x st f fd
  mgf : mg x = some (.ref f)
theorem at_mk {K : PySem.W.Frag} {h : Heap} {mg : Str → Option Value} {x : Str} {st : Stmt} {f : Addr} (X : K.In h) (G : h.Ns mainGlobals mg)
    {oc : Value} {od an : Option Addr} {osl : Array (Option Value)} {kV doc pm cdv ct : Value}
    (a : PySem.W.nsIn K mainGlobals x = some (some (.ref f)))
    (l : K.lookup f = some ⟨oc, od, .func (PySem.W.fnOf x x (defArgs st) (defBody st) (defScope st) .none kV doc pm an cdv ct), osl⟩)
    (c : PySem.W.codeIn K cdv x = true) (k : PySem.W.keepIn K (.ref f) = true) :
    ∃ f fd, At K mg x st f fd := ⟨_, _, fun_mk l c k, PySem.W.mg_of X G a⟩

/-- a def that may be called by its name, every parameter given -/
structure Cal (P : Program) (w : World) (K : PySem.W.Frag) (mg : Str → Option Value) (base : Heap) (CX : CXT) (k : Nat) (x : Str) (ps : List Str) (sp : Sp) : Prop where
  ex : ∃ (f : Addr) (fd : FuncData), FnG P w K mg base CX k f fd ps sp ∧ mg x = some (.ref f) ∧ PySem.W.keepIn K (.ref f) = true ∧ Binds K fd ps [] ∧
    ∃ oc od osl, K.lookup f = some ⟨oc, od, .func fd, osl⟩
/-- .. with keywords -/
structure CalK (P : Program) (w : World) (K : PySem.W.Frag) (mg : Str → Option Value) (base : Heap) (CX : CXT) (k : Nat) (x : Str) (ps ks : List Str) (g : List Value → List Value → List Value) (gV : List V → List V → List V) (sp : Sp) : Prop where
  ex : ∃ (f : Addr) (fd : FuncData), FnG P w K mg base CX k f fd ps sp ∧ mg x = some (.ref f) ∧ PySem.W.keepIn K (.ref f) = true ∧ KBinds K fd ps ks g gV
theorem Cal.kw {P : Program} {w : World} {K : PySem.W.Frag} {mg : Str → Option Value} {base : Heap} {CX : CXT} {k : Nat} {x : Str} {ps ks : List Str} {g : List Value → List Value → List Value} {gV : List V → List V → List V} {sp : Sp} {st : Stmt} {f : Addr} {fd : FuncData}
    (c : Cal P w K mg base CX k x ps sp) (F : At K mg x st f fd) (hg : ∀ (kV doc pm : Value) (an : Option Addr) (cdv ct : Value) (us ws : List Value), (g us ws).length = ps.length →
      bindArgs (PySem.W.fnOf x x (defArgs st) (defBody st) (defScope st) .none kV doc pm an cdv ct) ⟨us, ks.zip ws⟩ = pure (ps.zip (g us ws)))
    (hv : ∀ {vs : List V} {us : List Value} {zs : List V} {ws : List Value}, Vals vs us → Vals zs ws → Vals (gV vs zs) (g us ws)) : CalK P w K mg base CX k x ps ks g gV sp := by
  obtain ⟨f', fd', h1, h2, h3, h4, oc, od, osl, h5⟩ := c.ex
  have e := h2.symm.trans F.mgf
  cases e
  obtain ⟨oc2, od2, kV, doc, pm, an, cdv, ct, osl2, e2, h6, h7⟩ := F.fn.ex
  rw [h5] at h6
  cases h6
  refine ⟨_, _, h1, h2, h3, ?_, hv⟩
  intro s us ws _ hl
  rw [e2]
  exact .of_eq (hg kV doc pm an cdv ct us ws hl)
/-- a method -/
structure Met (P : Program) (w : World) (K : PySem.W.Frag) (mg : Str → Option Value) (base : Heap) (CX : CXT) (k : Nat) (C : Addr) (m : Str) (ps : List Str) (sp : Sp) : Prop where
  ex : ∃ (f : Addr) (fd : FuncData), Cls K C ∧ Meth K C m f ∧ FnG P w K mg base CX k f fd ps sp ∧ Binds K fd ps []
/-- a class to be made by its name -/
structure Mak (P : Program) (w : World) (K : PySem.W.Frag) (mg : Str → Option Value) (base : Heap) (CX : CXT) (k : Nat) (x : Str) (C : Addr) (ps : List Str) (sp : Sp) : Prop where
  ex : ∃ (f : Addr) (fd : FuncData), Mk K C f ∧ FnG P w K mg base CX k f fd ps sp ∧ mg x = some (.ref C) ∧ Binds K fd ps []

section
variable {X : Cx} {k j : Nat} {C : Addr} {x m : Str} {ps : List Str} {sp : Sp} {p pos apos : Pos} {e o : Expr} {es : List Expr} {ta : TE} {t : TA}
/-- f(e, ..) of a def that raises nothing -/
theorem pc (c : Cal X.prog X.w X.K X.mg X.base CX0 k x ps sp) (hr : Rm j X.A) (ha : PA X (e :: es) t) (hk : k ≤ j := by decide) (hg : Gl X x := by rfl)
    (hdb : (x == ("__debug__" : Str)) = false := by decide)
    (he : starEach (e :: es) X.env = (false, eval e X.env) :: starEach es X.env := by rfl)
    (hpl : (backTo pos (starEach es X.env)).any (·.1) = false := by rfl) :
    PE X (.Call (.Name x p) (e :: es) [] pos) (tCall sp [] E0 t) := by
  obtain ⟨f, fd, F, hm, kp, b, _⟩ := c.ex
  exact peG_call F (hr.mono hk) hg hm kp b .nil pass0 ha hdb he hpl
/-- f(k = e, ..) -/
theorem pck {kws : List Keyword} {tk : TA} {ks : List Str} {g : List Value → List Value → List Value} {gV : List V → List V → List V} (c : CalK X.prog X.w X.K X.mg X.base CX0 k x ps ks g gV sp) (hr : Rm j X.A) (hkw : PK X kws tk)
    (hk : k ≤ j := by decide) (hg : Gl X x := by rfl)
    (hall : (backToKw pos (keywordEach kws X.env)).all (·.1.isSome) = true := by rfl)
    (hks : (backToKw pos (keywordEach kws X.env)).filterMap (·.1) = ks := by rfl) (hdb : (x == ("__debug__" : Str)) = false := by decide)
    (hpl : ((backTo pos (starEach [] X.env)).any (·.1) || (backToKw pos (keywordEach kws X.env)).any (·.1.isNone)) = false := by rfl) :
    PE X (.Call (.Name x p) [] kws pos) (tCallK sp gV E0 tNil tk) := by
  obtain ⟨f, fd, F, hm, kp, b⟩ := c.ex
  exact peG_callK0 F (hr.mono hk) hg hm kp b pass0 hkw hall hks hdb hpl
theorem pm {pl : Sem Bool} (c : Met X.prog X.w X.K X.mg X.base CX0 k C m ps sp) (hr : Rm j X.A) (ho : PE X o ta) (ha : PA X (e :: es) t) (hk : k ≤ j := by decide)
    (hst : starEach (e :: es) X.env = (false, eval e X.env) :: starEach es X.env := by rfl)
    (hpl : (backTo pos (starEach es X.env)).any (·.1) = false := by rfl)
    (ht : eval (.Call (.Attribute o m apos) (e :: es) [] pos) X.env = (do
      let ov ← eval o X.env
      standAt apos.atName
      let (f, first) ← holding [ov] (getMethod ov m pl)
      callWith pos f first (backTo pos (starEach (e :: es) X.env)) (backToKw pos (keywordEach [] X.env))) := by rfl) :
    PE X (.Call (.Attribute o m apos) (e :: es) [] pos) (tMeth C m sp [] E0 ta t) := by
  obtain ⟨f, fd, cl, me, F, b⟩ := c.ex
  exact peG_meth ho cl me F (hr.mono hk) b .nil pass0 ha hst hpl ht
theorem pm0 {pl : Sem Bool} (c : Met X.prog X.w X.K X.mg X.base CX0 k C m ps sp) (hr : Rm j X.A) (ho : PE X o ta) (hk : k ≤ j := by decide)
    (ht : eval (.Call (.Attribute o m apos) [] [] pos) X.env = (do
      let ov ← eval o X.env
      standAt apos.atName
      let (f, first) ← holding [ov] (getMethod ov m pl)
      callWith pos f first (backTo pos (starEach [] X.env)) (backToKw pos (keywordEach [] X.env))) := by rfl) :
    PE X (.Call (.Attribute o m apos) [] [] pos) (tMeth C m sp [] E0 ta tNil) := by
  obtain ⟨f, fd, cl, me, F, b⟩ := c.ex
  exact peG_meth0 ho cl me F (hr.mono hk) b .nil pass0 ht
theorem pmk (c : Mak X.prog X.w X.K X.mg X.base CX0 k x C ps sp) (hr : Rm j X.A) (ha : PA X (e :: es) t) (hk : k + 1 ≤ j := by decide) (hg : Gl X x := by rfl)
    (hdb : (x == ("__debug__" : Str)) = false := by decide)
    (he : starEach (e :: es) X.env = (false, eval e X.env) :: starEach es X.env := by rfl)
    (hpl : (backTo pos (starEach es X.env)).any (·.1) = false := by rfl) :
    PE X (.Call (.Name x p) (e :: es) [] pos) (tMake C sp [] E0 t) := by
  obtain ⟨f, fd, M, F, hm, b⟩ := c.ex
  exact peG_make M F (hr.mono hk) hg hm b .nil pass0 ha hdb he hpl
end

section
variable {P : Program} {w : World} {K : PySem.W.Frag} {mg : Str → Option Value} {base : Heap} {k : Nat} {sp : Sp} {N ps : List Str} {st : Stmt} {f : Addr} {fd : FuncData}
/-- the body of a def that raises nothing -/
def Body (P : Program) (w : World) (K : PySem.W.Frag) (mg : Str → Option Value) (base : Heap) (k : Nat) (qual : Str) (st : Stmt) (f : Addr) (N : List Str) (sp : Sp) : Prop :=
  ∀ (cdv : Value) (A : Around) (outer : List Env) (s : Shared) (H : Hp) (vs : List V) (Q : VK) (E : XK),
    Rm k (A.deeper (envOfC qual (defScope st) s.heap.objs.size f cdv)) → sp vs H Q E →
    ∃ t, PSs (cxOf CX0 P w K mg base N qual (defScope st) f cdv A outer s H E).nox (defBody st) t ∧
      t { nx := fun _ H' => Q .non H', rt := Q } (start N vs) H
theorem fnG_mk {x qual : Str} (F : Fun K x qual st f fd) (S : FnScope N ps (defScope st)) (len : ∀ vs H Q E, sp vs H Q E → vs.length = ps.length)
    (hbody : Body P w K mg base k qual st f N sp) : FnG P w K mg base CX0 (k + 1) f fd ps sp := by
  obtain ⟨oc, od, kV, doc, pm, an, cdv, ct, osl, rfl, lk, hcd⟩ := F.ex
  refine fnG_of lk hcd S len ?_
  intro A outer s H vs Q E hr hsp
  obtain ⟨t, h, q⟩ := hbody cdv A outer s H vs Q E hr hsp
  exact ⟨t, h.nox, q⟩
theorem cal_mk {x : Str} (F : At K mg x st f fd) (b : Binds K fd ps []) (S : FnScope N ps (defScope st)) (len : ∀ vs H Q E, sp vs H Q E → vs.length = ps.length)
    (hbody : Body P w K mg base k x st f N sp) : Cal P w K mg base CX0 (k + 1) x ps sp :=
  ⟨f, fd, fnG_mk F.fn S len hbody, F.mgf, F.fn.kp, b, let ⟨oc, od, _, _, _, _, _, _, osl, _, h, _⟩ := F.fn.ex; ⟨oc, od, osl, h⟩⟩
theorem met_mk {C : Addr} {m qual : Str} (c : Cls K C) (me : Meth K C m f) (F : Fun K m qual st f fd) (b : Binds K fd ps []) (S : FnScope N ps (defScope st))
    (len : ∀ vs H Q E, sp vs H Q E → vs.length = ps.length) (hbody : Body P w K mg base k qual st f N sp) : Met P w K mg base CX0 (k + 1) C m ps sp :=
  ⟨f, fd, c, me, fnG_mk F S len hbody, b⟩
theorem mak_mk {C : Addr} {x qual : Str} (M : Mk K C f) (hm : mg x = some (.ref C)) (F : Fun K "__init__" qual st f fd) (b : Binds K fd ps []) (S : FnScope N ps (defScope st))
    (len : ∀ vs H Q E, sp vs H Q E → vs.length = ps.length) (hbody : Body P w K mg base k qual st f N sp) : Mak P w K mg base CX0 (k + 1) x C ps sp :=
  ⟨f, fd, M, fnG_mk F S len hbody, hm, b⟩
end
end Ov

set_option maxHeartbeats 4000000
namespace Ov
open PySem PySem.Spec PyProof.Rows L2

/-- what a reading may ask for without being a loop -/
class Plain (α : Type) : Prop where
  ok : True
instance : Plain V := ⟨trivial⟩
instance : Plain Int := ⟨trivial⟩
instance : Plain Nat := ⟨trivial⟩
instance : Plain Bool := ⟨trivial⟩
instance : Plain Str := ⟨trivial⟩
instance : Plain Obj := ⟨trivial⟩
instance : Plain Value := ⟨trivial⟩
instance : Plain String := ⟨trivial⟩
instance : Plain PyData := ⟨trivial⟩
instance : Plain HO := ⟨trivial⟩
instance {α : Type} : Plain (List α) := ⟨trivial⟩
instance {α : Type} : Plain (Option α) := ⟨trivial⟩
instance {α : Type} : Plain (Array α) := ⟨trivial⟩
instance {α β : Type} : Plain (α × β) := ⟨trivial⟩
instance {α β : Type} : Plain (Sum α β) := ⟨trivial⟩
instance : Plain Hp := ⟨trivial⟩
theorem exi {α : Type} [Plain α] {p : α → Prop} (w : α) (h : p w) : Exists p := ⟨w, h⟩

/-- a place where a reading stops -/
structure Hold (p : Prop) : Prop where
  h : p
/-! ### heaps -/
/-- all but what stands at b is as it was -/
def SameB (b : Addr) (H H' : Hp) : Prop := ∀ a o, a ≠ b → H a = some o → H' a = some o
theorem SameB.refl (b : Addr) (H : Hp) : SameB b H H := fun _ _ _ h => h
theorem SameB.trans {b : Addr} {H H1 H2 : Hp} (x : SameB b H H1) (y : SameB b H1 H2) : SameB b H H2 := fun a o n h => y a o n (x a o n h)
theorem Same.toB {b : Addr} {H H1 : Hp} (x : Same H H1) : SameB b H H1 := fun a o _ h => x a o h
theorem SameB.same {b : Addr} {H H1 H2 : Hp} (x : SameB b H H1) (y : Same H1 H2) : SameB b H H2 := fun a o n h => y a o (x a o n h)
theorem same_new {H : Hp} {p : Addr} {o : HO} (h : H p = none) : Same H (upd H p o) := fun a u e => by rw [upd_ne (ne_of_none e h)]; exact e
theorem sameB_upd {H : Hp} {b : Addr} {o : HO} : SameB b H (upd H b o) := fun a u n e => by rw [upd_ne n]; exact e
theorem SameB.updp {b : Addr} {H H1 : Hp} {o : HO} (x : SameB b H H1) : SameB b H (upd H1 b o) := x.trans sameB_upd
theorem SameB.new {b n : Addr} {H H1 : Hp} {o : HO} (x : SameB b H H1) (h : H1 n = none) : SameB b H (upd H1 n o) := x.same (same_new h)
theorem SameB.mut {b n : Addr} {H H1 : Hp} {o : HO} (x : SameB b H H1) (h : H n = none) : SameB b H (upd H1 n o) := fun a u h1 h2 => by
  rw [upd_ne (ne_of_none h2 h)]
  exact x a u h1 h2
theorem SameB.free {b l : Addr} {H H1 : Hp} (x : SameB b H H1) (n : l ≠ b) (h : H1 l = none) : H l = none := by
  cases q : H l with
  | none => rfl
  | some o =>
    rw [x l o n q] at h
    cases h
theorem upd_keep {H : Hp} {p a : Addr} {o u : HO} (h : H a = some u) (n : H p = none) : upd H p o a = some u := by
  rw [upd_ne (ne_of_none h n)]
  exact h
theorem upd_keepN {H : Hp} {p a : Addr} {o u : HO} (h : H a = some u) (n : a ≠ p) : upd H p o a = some u := by
  rw [upd_ne n]
  exact h
theorem same_get {H H' : Hp} {a : Addr} {o : HO} (s : Same H H') (h : H a = some o) : H' a = some o := s a o h
theorem sqT_of {K : PySem.W.Frag} {H : Hp} {a : Addr} {xs : List V} (h : H a = some (.tup xs)) : SqT K H a xs := Or.inl (Or.inl h)
theorem sqL_of {K : PySem.W.Frag} {H : Hp} {a : Addr} {xs : List V} (h : H a = some (.lst xs)) : SqL K H a xs := Or.inl (Or.inl h)
theorem Same.seqT {K : PySem.W.Frag} {H H' : Hp} {a : Addr} {xs : List V} (e : Same H H') (h : SqT K H a xs) : SqT K H' a xs := by
  rcases h with (h | ⟨o, h⟩) | h
  · exact .inl (.inl (e _ _ h))
  · exact .inl (.inr ⟨o, e _ _ h⟩)
  · exact .inr h

theorem iteBT {b : Bool} {A B : Prop} (h : b = true) (g : A) : if b = true then A else B := by rw [if_pos h]; exact g
theorem iteBF {b : Bool} {A B : Prop} (h : b = false) (g : B) : if b = true then A else B := by rw [if_neg (by simp [h])]; exact g
theorem iteD {c A B : Prop} [Decidable c] (h1 : c → A) (h2 : ¬ c → B) : if decide c = true then A else B := by
  by_cases h : c
  · rw [if_pos (decide_eq_true h)]; exact h1 h
  · rw [if_neg (by simp [h])]; exact h2 h
theorem iteN {c A B : Prop} [Decidable c] (h1 : ¬ c → A) (h2 : c → B) : if (!decide c) = true then A else B := by
  by_cases h : c
  · rw [if_neg (by simp [h])]; exact h2 h
  · rw [if_pos (by simp [h])]; exact h1 h
theorem div_ok {i j : Int} (h : 0 < j) (h2 : j ≤ 10000000000000000000000000000000000000000) : CDivW i j :=
  wide_div (b := 200) h (by omega) (by decide) (by decide)

/-- a constant of the module -/
theorem pgl {X : Cx} {x : Str} {pos : Pos} {v : V} (h : ∃ u, X.mg x = some u ∧ RelV v u) (hg : Gl X x := by rfl)
    (hd : (x == ("__debug__" : Str)) = false := by decide) : PE X (.Name x pos) (tC v) := by
  obtain ⟨u, h1, h2⟩ := h
  exact pe_glob hg h1 h2 hd

/-! ### built-in names that the module does not hide -/
structure Blt (mg : Str → Option Value) : Prop where
  b_len : mg "len" = none
  b_abs : mg "abs" = none
  b_int : mg "int" = none
  b_bool : mg "bool" = none
  b_str : mg "str" = none
  b_tuple : mg "tuple" = none
  b_list : mg "list" = none
  b_dict : mg "dict" = none
  b_set : mg "set" = none
  b_range : mg "range" = none
  b_zip : mg "zip" = none
  b_enumerate : mg "enumerate" = none
  b_all : mg "all" = none
  b_any : mg "any" = none
  b_sum : mg "sum" = none
  b_min : mg "min" = none
  b_max : mg "max" = none
  b_sorted : mg "sorted" = none
  b_repr : mg "repr" = none
  b_isinstance : mg "isinstance" = none

/-! ### the box of drawn numbers -/
def boxTop : Int := 10 ^ 240
def seedTop : Int := 2305843009213693951
structure BoxAt (H : Hp) (b : Addr) (N : Nat) : Prop where
  ex : ∃ o s n : Int, H b = some (.lst [.int o, .int s, .int n]) ∧ 0 ≤ o ∧ o < boxTop ∧ 0 ≤ s ∧ s < seedTop ∧ 0 ≤ n ∧ n ≤ (N : Int)
theorem BoxAt.mono {H : Hp} {b : Addr} {N M : Nat} (x : BoxAt H b N) (h : N ≤ M) : BoxAt H b M := by
  obtain ⟨o, s, n, h1, h2, h3, h4, h5, h6, h7⟩ := x.ex
  exact ⟨o, s, n, h1, h2, h3, h4, h5, h6, by omega⟩
theorem BoxAt.same {H H' : Hp} {b : Addr} {N : Nat} (x : BoxAt H b N) (s : Same H H') : BoxAt H' b N := by
  obtain ⟨o, r, n, h1, h⟩ := x.ex
  exact ⟨o, r, n, s _ _ h1, h⟩
def spTake : Sp := fun vs H Q _ => ∃ (b : Addr) (m : Int) (N : Nat), vs = [.ref b, .int m] ∧ BoxAt H b N ∧ N ≤ 2 ^ 60 ∧ 0 < m ∧ m ≤ 10000000000000000000000000000000000000000 ∧
  ∀ (r : Int) (H' : Hp), 0 ≤ r → r < m → BoxAt H' b (N + 1) → SameB b H H' → Q (.int r) H'
def spBox (K : PySem.W.Frag) : Sp := fun vs H Q _ => ∃ (a : Addr) (ns : List Int) (i : Nat), vs = [.ref a, .int (i : Int)] ∧ SqL K H a (ns.map V.int) ∧ i ≤ 100 ∧
  ∀ (b : Addr) (H' : Hp), H b = none → BoxAt H' b 0 → Same H H' → Q (.ref b) H'
end Ov

set_option maxHeartbeats 4000000
namespace Ov
open PySem PySem.Spec PyProof.Rows L2 RZ

/-! ### tuples, any slice and sum alike -/
theorem cutV_whole {xs : List V} {lo hi : Option Int} (h : HT.sIx xs.length 0 lo = 0 ∧ HT.sIx xs.length xs.length hi = xs.length) : cutV xs lo hi = xs := by
  unfold cutV
  rw [h.1, h.2]
  simp
theorem cutV_from {xs : List V} {v : Int} {i : Nat} (h : v = (i : Int)) : cutV xs (some v) none = xs.drop i := by
  subst h
  unfold cutV
  rw [HT.sIx_nat, HT.sIx_none]
  rcases Nat.le_total i xs.length with h | h
  · rw [Nat.min_eq_left h, List.take_of_length_le (by simp)]
  · rw [Nat.min_eq_right h, List.drop_eq_nil_of_le h, List.drop_eq_nil_of_le (Nat.le_refl _)]
    simp
theorem cutV_to {xs : List V} {v : Int} {j : Nat} (h : v = (j : Int)) : cutV xs none (some v) = xs.take j := by
  subst h
  unfold cutV
  rw [HT.sIx_nat, HT.sIx_none, List.drop_zero, Nat.sub_zero]
  rcases Nat.le_total j xs.length with h | h
  · rw [Nat.min_eq_left h]
  · rw [Nat.min_eq_right h, List.take_of_length_le (Nat.le_refl _), List.take_of_length_le h]
theorem cutV_mid {xs : List V} {u v : Int} {i j : Nat} (hu : u = (i : Int)) (hv : v = (j : Int)) : cutV xs (some u) (some v) = (xs.take j).drop i := by
  subst hu hv
  unfold cutV
  rw [HT.sIx_nat, HT.sIx_nat, List.drop_take]
  rcases Nat.le_total i xs.length with h | h
  · rw [Nat.min_eq_left h]
    rcases Nat.le_total j xs.length with h2 | h2
    · rw [Nat.min_eq_left h2]
    · rw [Nat.min_eq_right h2, List.take_of_length_le (by simp), List.take_of_length_le (by simp; omega)]
  · rw [Nat.min_eq_right h, List.drop_eq_nil_of_le h, List.drop_eq_nil_of_le (Nat.le_refl _)]
    simp
def rSlU (K : PySem.W.Frag) : V → Option Int → Option Int → Hp → VK → Prop := fun x lo hi H Q => ∃ a xs, x = .ref a ∧ SqT K H a xs ∧
  ∀ p H', Same H H' → SqT K H' p (cutV xs lo hi) → Q (.ref p) H'
theorem sl_tupU {X : Cx} : SlR X (rSlU X.K) := by
  intro pins s σ H x v vl vu lo hi sl Q I rx hs pl pu h
  obtain ⟨a, xs, e, hx, q⟩ := h
  refine sl_tupA pins s σ H x v vl vu lo hi sl Q I rx hs pl pu ⟨a, xs, e, hx, ?_, ?_⟩
  · intro hw
    exact q a H (Same.refl H) (by rw [cutV_whole hw]; exact hx)
  · intro _ p hp
    exact q p _ (same_new hp) (sqT_of upd_same)
def rCatU (K : PySem.W.Frag) : R2 := fun x y H Q => ∃ a b xs ys, x = .ref a ∧ y = .ref b ∧ SqT K H a xs ∧ SqT K H b ys ∧ xs.length + ys.length ≤ sizeLine ∧
  ∀ p H', Same H H' → SqT K H' p (xs ++ ys) → Q (.ref p) H'
theorem op_catU {X : Cx} : OpR X (binaryOp .Add) (rCatU X.K) := by
  intro pins s σ H x y v u Q I rx ry h
  obtain ⟨a, b, xs, ys, e1, e2, ha, hb, hz, q⟩ := h
  refine op_catA pins s σ H x y v u Q I rx ry ⟨a, b, xs, ys, e1, e2, ha, hb, hz, ?_, ?_, ?_⟩
  · intro hx
    exact q b H (Same.refl H) (by rw [hx]; exact hb)
  · intro _ hy
    exact q a H (Same.refl H) (by rw [hy, List.append_nil]; exact ha)
  · intro _ _ p hp
    exact q p _ (same_new hp) (sqT_of upd_same)

/-! ### walks -/
theorem walk_zipT {K : PySem.W.Frag} {a b : Addr} {xs ys : List V} {n : Nat} (hn : n = min xs.length ys.length) :
    Walk (ItzT K a b) n (fun H => SqT K H a xs ∧ SqT K H b ys) (YPair (fun i => xs[i]?) (fun i => ys[i]?)) := by
  subst hn
  refine ⟨?_, ?_, ?_⟩
  · intro i H hi q
    have h1 : i < xs.length := by omega
    have h2 : i < ys.length := by omega
    exact ⟨xs, ys, xs[i], ys[i], q.1, q.2, by simp [h1], by simp [h2]⟩
  · intro H q
    exact ⟨xs, ys, q.1, q.2, by omega⟩
  · intro i H v H' _ q y
    obtain ⟨T, x, y, h1, h2, h3, h4⟩ := y
    exact ⟨T, x, y, h1, h2, h3, h4.1 xs q.1, h4.2 ys q.2⟩

/-! ### comprehensions that only add to the heap -/
section
variable {J : It} {n : Nat} {G : Hp → Prop} {Y : Nat → Hp → V → Hp → Prop} {g : TG} {tt : TT} {te : TE} {vs : List Nat} {σ : L2.St} {H1 : Hp} {D : Addr} {Qd : Hp → Prop}
theorem same_lst {H H' : Hp} {D : Addr} {xs : List V} (s : Same H H') (h : H D = none) : Same H (upd H' D (.lst xs)) := fun a o e => by
  rw [upd_ne (ne_of_none e h)]
  exact s a o e
/-- each turn gives the value f i where c i holds -/
theorem lc_val (w : Walk J n G Y) (f : Nat → V) (c : Nat → Bool) (hD : H1 D = none) (hn : n ≤ sizeLine) (hG : ∀ H, Same H1 H → G H)
    (hs : ∀ i x H H' (R : V → Hp → Prop) (Rn : Hp → Prop), i < n → Same H1 H → Y i H x H' →
      (c i = true → ∀ H4, Same H H4 → R (f i) H4) → (c i = false → ∀ H3, Same H H3 → Rn H3) →
      g x (wipe σ vs) H' fun σ2 H2 => wipe σ2 vs = wipe σ vs ∧ tt σ2 H2 fun b H3 => if b = true then te σ2 H3 R else Rn H3)
    (hd : ∀ H, Same H1 H → H D = some (.lst (((List.range n).filter c).map f)) → Qd H) :
    ∃ W : Nat → Nat → Hp → Prop, (∃ m, W 0 m (upd H1 D (.lst []))) ∧ ∀ i m H, W i m H →
      (J.stop i H ∧ Qd H) ∨ (J.go i H ∧ ∃ Nx : Hp → Prop, (∀ H', Nx H' → ∃ m', m' < m ∧ W (i + 1) m' H') ∧ ∀ x H', J.yld i H x H' →
        g x (wipe σ vs) H' fun σ2 H2 => wipe σ2 vs = wipe σ vs ∧ tt σ2 H2 fun b H3 =>
        if b = true then te σ2 H3 fun y H4 => ∃ acc, H4 D = some (.lst acc) ∧ acc.length < sizeLine ∧ Nx (upd H4 D (.lst (acc ++ [y]))) else Nx H3) := by
  refine lc_it w (fun i H => Same H1 H ∧ H D = some (.lst (((List.range i).filter c).map f))) ⟨same_new hD, upd_same⟩ (fun i H _ p => hG H p.1) ?_
    (fun H p => hd H p.1 p.2)
  intro i x H H' hi p y
  refine hs i x H H' _ _ hi p.1 y ?_ ?_
  · intro hc H4 s4
    refine ⟨_, s4 _ _ p.2, ?_, same_lst (p.1.trans s4) hD, ?_⟩
    · have h1 : (((List.range i).filter c).map f).length ≤ i := by
        rw [List.length_map]
        exact Nat.le_trans (List.length_filter_le _ _) (by simp)
      omega
    · rw [upd_same, List.range_succ, List.filter_append]
      simp [hc]
  · intro hc H3 s3
    refine ⟨p.1.trans s3, ?_⟩
    rw [s3 _ _ p.2, List.range_succ, List.filter_append]
    simp [hc]
/-- without a test -/
theorem lc_map (w : Walk J n G Y) (f : Nat → V) (hD : H1 D = none) (hn : n ≤ sizeLine) (hG : ∀ H, Same H1 H → G H)
    (hs : ∀ i x H H' (R : V → Hp → Prop) (Rn : Hp → Prop), i < n → Same H1 H → Y i H x H' → (∀ H4, Same H H4 → R (f i) H4) →
      g x (wipe σ vs) H' fun σ2 H2 => wipe σ2 vs = wipe σ vs ∧ tt σ2 H2 fun b H3 => if b = true then te σ2 H3 R else Rn H3)
    (hd : ∀ H, Same H1 H → H D = some (.lst ((List.range n).map f)) → Qd H) :
    ∃ W : Nat → Nat → Hp → Prop, (∃ m, W 0 m (upd H1 D (.lst []))) ∧ ∀ i m H, W i m H →
      (J.stop i H ∧ Qd H) ∨ (J.go i H ∧ ∃ Nx : Hp → Prop, (∀ H', Nx H' → ∃ m', m' < m ∧ W (i + 1) m' H') ∧ ∀ x H', J.yld i H x H' →
        g x (wipe σ vs) H' fun σ2 H2 => wipe σ2 vs = wipe σ vs ∧ tt σ2 H2 fun b H3 =>
        if b = true then te σ2 H3 fun y H4 => ∃ acc, H4 D = some (.lst acc) ∧ acc.length < sizeLine ∧ Nx (upd H4 D (.lst (acc ++ [y]))) else Nx H3) := by
  refine lc_val w f (fun _ => true) hD hn hG ?_ ?_
  · intro i x H H' R Rn hi s y h1 h2
    exact hs i x H H' R Rn hi s y (h1 rfl)
  · intro H s h
    refine hd H s ?_
    rw [h, List.filter_eq_self.mpr (fun _ _ => rfl)]
end
end Ov

set_option linter.all false
namespace Ov
/-! ### sums of lengths and the table of least sums -/
inductive Sums (ls : List Nat) : Nat → Prop
  | zero : Sums ls 0
  | add {t a : Nat} : Sums ls t → a ∈ ls → Sums ls (t + a)
theorem Sums.mono {ls ms : List Nat} (h : ∀ a ∈ ls, a ∈ ms) {t : Nat} (s : Sums ls t) : Sums ms t := by
  induction s with
  | zero => exact .zero
  | add _ hm ih => exact .add ih (h _ hm)
theorem Sums.mul {ls : List Nat} {a : Nat} (ha : a ∈ ls) {t : Nat} (s : Sums ls t) : ∀ k : Nat, Sums ls (t + k * a)
  | 0 => by simpa using s
  | k + 1 => by
    have := Sums.add (Sums.mul ha s k) ha
    rwa [Nat.add_assoc, ← Nat.succ_mul] at this
theorem Sums.plus {ls : List Nat} {t u : Nat} (s : Sums ls t) (r : Sums ls u) : Sums ls (t + u) := by
  induction r with
  | zero => exact s
  | add _ hm ih => rw [← Nat.add_assoc]; exact .add ih hm
theorem sums_more {ls : List Nat} {L t : Nat} : Sums (ls ++ [L]) t ↔ ∃ s k, Sums ls s ∧ t = s + k * L := by
  constructor
  · intro h
    induction h with
    | zero => exact ⟨0, 0, .zero, by simp⟩
    | add _ hm ih =>
      obtain ⟨s, k, h1, rfl⟩ := ih
      rcases List.mem_append.mp hm with h2 | h2
      · exact ⟨_, k, .add h1 h2, by omega⟩
      · have := List.mem_singleton.mp h2
        subst this
        exact ⟨s, k + 1, h1, by rw [Nat.succ_mul]; omega⟩
  · rintro ⟨s, k, h1, rfl⟩
    exact Sums.mul (by simp) (h1.mono (by simp +contextual)) k

def EntOk (S : Nat → Prop) (m r : Nat) : Option Nat → Prop
  | none => ∀ s, S s → s % m ≠ r
  | some t => S t ∧ t % m = r ∧ ∀ s, S s → s % m = r → t ≤ s
structure AOk (S : Nat → Prop) (ls : List Nat) (lv av : List (Option Nat)) : Prop where
  len : av.length = lv.length
  som : ∀ r L : Nat, av[r]? = some (some L) → ∃ t, lv[r]? = some (some t) ∧ L ∈ ls ∧ L ≤ t ∧ S (t - L)
  has : ∀ r t : Nat, r ≠ 0 → lv[r]? = some (some t) → ∃ L, av[r]? = some (some L)
theorem AOk.mono {S S' : Nat → Prop} {ls ms : List Nat} {lv av : List (Option Nat)} (h : AOk S ls lv av) (hs : ∀ s, S s → S' s) (hl : ∀ a ∈ ls, a ∈ ms) : AOk S' ms lv av :=
  ⟨h.len, fun r L e => let ⟨t, h1, h2, h3, h4⟩ := h.som r L e; ⟨t, h1, hl _ h2, h3, hs _ h4⟩, h.has⟩
theorem AOk.set {S : Nat → Prop} {ls : List Nat} {lv av : List (Option Nat)} (h : AOk S ls lv av) {r t L : Nat} (hr : r < lv.length) (hL : L ∈ ls) (ht : L ≤ t) (hS : S (t - L)) :
    AOk S ls (lv.set r (some t)) (av.set r (some L)) := by
  refine ⟨by simp [h.len], ?_, ?_⟩
  · intro q M e
    rw [List.getElem?_set] at e
    rw [List.getElem?_set]
    by_cases hq : r = q
    · rw [if_pos hq] at e
      rw [if_pos hq, if_pos hr]
      rw [if_pos (by rw [h.len]; exact hr)] at e
      cases e
      exact ⟨t, rfl, hL, ht, hS⟩
    · rw [if_neg hq] at e
      rw [if_neg hq]
      exact h.som q M e
  · intro q u hq e
    rw [List.getElem?_set] at e
    rw [List.getElem?_set]
    by_cases hq : r = q
    · rw [if_pos hq, if_pos (by rw [h.len]; exact hr)]
      exact ⟨L, rfl⟩
    · rw [if_neg hq] at e
      rw [if_neg hq]
      exact h.has q u (by assumption) e
structure TabOk (ls : List Nat) (m : Nat) (lv av : List (Option Nat)) : Prop where
  len : lv.length = m
  ent : ∀ r, r < m → ∃ e, lv[r]? = some e ∧ EntOk (Sums ls) m r e
  add : AOk (Sums ls) ls lv av

/-! ### residues along a length -/
theorem bez (a b : Nat) : ∃ x y : Int, ((Nat.gcd a b : Nat) : Int) = (a : Int) * x + (b : Int) * y := by
  induction a, b using Nat.gcd.induction with
  | H0 n => exact ⟨0, 1, by simp⟩
  | H1 m n hm ih =>
    obtain ⟨x, y, e⟩ := ih
    refine ⟨y - (n / m : Nat) * x, x, ?_⟩
    rw [Nat.gcd_rec, e]
    have h : (n : Int) = (m : Int) * ((n / m : Nat) : Int) + ((n % m : Nat) : Int) := by exact_mod_cast (Nat.div_add_mod n m).symm
    generalize ((n / m : Nat) : Int) = q at *
    generalize ((n % m : Nat) : Int) = r at *
    rw [h, Int.mul_sub, Int.add_mul, Int.mul_assoc]
    omega
theorem bez_nat (L m : Nat) (hm : 0 < m) : ∃ i : Nat, (i * L) % m = Nat.gcd L m % m := by
  obtain ⟨x, y, e⟩ := bez L m
  refine ⟨(x % (m : Int)).toNat, ?_⟩
  have hx : 0 ≤ x % (m : Int) := Int.emod_nonneg _ (by omega)
  have h1 : (((x % (m : Int)).toNat : Nat) : Int) = x % (m : Int) := Int.toNat_of_nonneg hx
  have h2 : ((((x % (m : Int)).toNat * L) % m : Nat) : Int) = (((Nat.gcd L m) % m : Nat) : Int) := by
    rw [Int.natCast_emod, Int.natCast_mul, h1, Int.natCast_emod, e, Int.add_mul_emod_self_left, Int.mul_comm (L : Int), Int.mul_emod, Int.emod_emod, ← Int.mul_emod]
  exact_mod_cast h2
theorem add_mod_cancel {a b c m : Nat} (h : (a + c) % m = (b + c) % m) : a % m = b % m := by
  have h1 : ((a : Int) + c) % m = ((b : Int) + c) % m := by exact_mod_cast h
  have h2 := (Int.emod_add_cancel_right (c : Int)).mp h1
  exact_mod_cast h2
theorem add_mod_iff {a x m : Nat} : (a + x) % m = a % m ↔ m ∣ x := by
  constructor
  · intro h
    have := Nat.sub_mod_eq_zero_of_mod_eq h
    rw [Nat.add_sub_cancel_left] at this
    exact Nat.dvd_of_mod_eq_zero this
  · rintro ⟨k, rfl⟩
    rw [Nat.add_mul_mod_self_left]
theorem dvd_step {L m i : Nat} (hm : 0 < m) : m ∣ i * L ↔ m / Nat.gcd L m ∣ i := by
  have hg : 0 < Nat.gcd L m := Nat.gcd_pos_of_pos_right _ hm
  have e1 : m = m / Nat.gcd L m * Nat.gcd L m := (Nat.div_mul_cancel (Nat.gcd_dvd_right L m)).symm
  have e2 : L = L / Nat.gcd L m * Nat.gcd L m := (Nat.div_mul_cancel (Nat.gcd_dvd_left L m)).symm
  have co : (m / Nat.gcd L m).Coprime (L / Nat.gcd L m) := (Nat.coprime_div_gcd_div_gcd hg).symm
  generalize Nat.gcd L m = g at *
  generalize hn : m / g = n at *
  generalize hl : L / g = l at *
  subst e1 e2
  rw [← Nat.mul_assoc, Nat.mul_dvd_mul_iff_right hg]
  exact ⟨fun h => co.dvd_of_dvd_mul_right h, fun h => Nat.dvd_trans h (Nat.dvd_mul_right _ _)⟩
/-- the number of residues on a round -/
def rnd (L m : Nat) : Nat := m / Nat.gcd L m
theorem rnd_pos {L m : Nat} (hm : 0 < m) : 0 < rnd L m := Nat.div_pos (Nat.gcd_le_right _ hm) (Nat.gcd_pos_of_pos_right _ hm)
theorem rnd_le {L m : Nat} : rnd L m ≤ m := Nat.div_le_self _ _
theorem step_ne {L m a s t : Nat} (hm : 0 < m) (hst : s < t) (ht : t < s + rnd L m) : (a + t * L) % m ≠ (a + s * L) % m := by
  intro h
  have e : a + t * L = a + s * L + (t - s) * L := by
    have : t * L = s * L + (t - s) * L := by rw [← Nat.add_mul]; congr 1; omega
    omega
  rw [e, add_mod_iff, dvd_step hm] at h
  have := Nat.le_of_dvd (by omega) h
  unfold rnd at ht
  omega
theorem step_back {L m a : Nat} (hm : 0 < m) (k : Nat) : (a + k * rnd L m * L) % m = a % m := by
  rw [add_mod_iff, dvd_step hm]
  exact Nat.dvd_mul_left _ _
theorem step_mod {L m a : Nat} (hm : 0 < m) (i : Nat) : (a + i * L) % m = (a + (i % rnd L m) * L) % m := by
  have e : i * L = (i % rnd L m) * L + (i / rnd L m) * rnd L m * L := by
    rw [← Nat.add_mul]
    congr 1
    rw [Nat.mul_comm (i / rnd L m)]
    exact (Nat.mod_add_div _ _).symm
  rw [e, ← Nat.add_assoc]
  exact step_back hm _
/-- every residue of the class is met -/
theorem step_all {L m r : Nat} (hm : 0 < m) (hr : r < m) : ∃ i, i < rnd L m ∧ (r % Nat.gcd L m + i * L) % m = r := by
  obtain ⟨j, hj⟩ := bez_nat L m hm
  have h : (r % Nat.gcd L m + (r / Nat.gcd L m * j) * L) % m = r := by
    rw [Nat.mul_assoc, Nat.add_mod, Nat.mul_mod, hj, ← Nat.mul_mod, ← Nat.add_mod, Nat.mul_comm, Nat.mod_add_div, Nat.mod_eq_of_lt hr]
  exact ⟨(r / Nat.gcd L m * j) % rnd L m, Nat.mod_lt _ (rnd_pos hm), by rw [← step_mod hm]; exact h⟩
theorem step_class {L m a i : Nat} : (a + i * L) % m % Nat.gcd L m = a % Nat.gcd L m := by
  rw [Nat.mod_mod_of_dvd _ (Nat.gcd_dvd_right L m), add_mod_iff]
  exact Nat.dvd_trans (Nat.gcd_dvd_left L m) (Nat.dvd_mul_left _ _)
/-- from a on, going back k lengths is going forward -/
theorem step_from {L m a s k : Nat} (hm : 0 < m) (h : (s + k * L) % m = a % m) : ∃ i, i < rnd L m ∧ s % m = (a + i * L) % m := by
  refine ⟨(k * (rnd L m - 1)) % rnd L m, Nat.mod_lt _ (rnd_pos hm), ?_⟩
  rw [← step_mod hm, Nat.add_mod, ← h, ← Nat.add_mod]
  have hp := rnd_pos (L := L) hm
  have e : s + k * L + k * (rnd L m - 1) * L = s + k * rnd L m * L := by
    have : k * rnd L m = k + k * (rnd L m - 1) := by
      have h1 : rnd L m = 1 + (rnd L m - 1) := by omega
      rw [h1, Nat.mul_add, Nat.mul_one, Nat.add_sub_cancel_left]
    rw [this, Nat.add_mul]
    omega
  rw [e, step_back hm]

/-! ### going round -/
section
variable {ls : List Nat} {L m : Nat} {lv0 av0 : List (Option Nat)}
structure RInv (ls : List Nat) (L m a : Nat) (lv0 : List (Option Nat)) (t v : Nat) (lv av : List (Option Nat)) : Prop where
  len : lv.length = m
  cur : lv[(a + t * L) % m]? = some (some v)
  done : ∀ u, u ≤ t → ∃ e, lv[(a + u * L) % m]? = some e ∧ EntOk (Sums (ls ++ [L])) m ((a + u * L) % m) e
  rest : ∀ r, r < m → (∀ u, u ≤ t → (a + u * L) % m ≠ r) → lv[r]? = lv0[r]?
  add : AOk (Sums (ls ++ [L])) (ls ++ [L]) lv av
/-- the entries of the class of ρ are those of ls -/
def ClassOk (ls : List Nat) (L m p : Nat) (lv : List (Option Nat)) : Prop := ∀ r, r < m → r % Nat.gcd L m = p → ∃ e, lv[r]? = some e ∧ EntOk (Sums ls) m r e
theorem round_start (hm : 0 < m) {p a : Nat} (hl : lv0.length = m) (hp : p < Nat.gcd L m) (hc : ClassOk ls L m p lv0) (ha : AOk (Sums (ls ++ [L])) (ls ++ [L]) lv0 av0)
    (h1 : lv0[a % m]? = some (some a)) (h2 : a % Nat.gcd L m = p)
    (h3 : ∀ i, i < rnd L m → ∀ u, lv0[(p + i * L) % m]? = some (some u) → a ≤ u) : RInv ls L m a lv0 0 a lv0 av0 := by
  have hg : a % m % Nat.gcd L m = p := by rw [Nat.mod_mod_of_dvd _ (Nat.gcd_dvd_right L m)]; exact h2
  refine ⟨hl, by simpa using h1, ?_, fun _ _ _ => rfl, ha⟩
  intro u hu
  obtain rfl : u = 0 := by omega
  simp only [Nat.zero_mul, Nat.add_zero]
  obtain ⟨e, e1, e2⟩ := hc (a % m) (Nat.mod_lt _ hm) hg
  rw [h1] at e1
  cases e1
  refine ⟨_, h1, ?_, rfl, ?_⟩
  · exact sums_more.mpr ⟨a, 0, e2.1, by simp⟩
  · intro s hs hr
    obtain ⟨s0, k, g1, rfl⟩ := sums_more.mp hs
    obtain ⟨i, _, gi⟩ := step_from hm hr
    -- s0 is in the class
    have gc : s0 % m % Nat.gcd L m = p := by rw [gi, step_class]; exact h2
    obtain ⟨j, hj, gj⟩ := step_all (L := L) hm (Nat.mod_lt s0 hm)
    rw [gc] at gj
    obtain ⟨e, e1, e2⟩ := hc (s0 % m) (Nat.mod_lt _ hm) gc
    cases e with
    | none => exact absurd rfl (e2 s0 g1)
    | some u =>
      have := h3 j hj u (by rw [gj]; exact e1)
      have := e2.2.2 s0 g1 rfl
      omega
theorem round_none (hm : 0 < m) {p : Nat} {lv : List (Option Nat)} (hc : ClassOk ls L m p lv) (hn : ∀ i, i < rnd L m → ∀ u, lv[(p + i * L) % m]? ≠ some (some u)) :
    ∀ r, r < m → r % Nat.gcd L m = p → ∃ e, lv[r]? = some e ∧ EntOk (Sums (ls ++ [L])) m r e := by
  have key : ∀ q, q < m → q % Nat.gcd L m = p → lv[q]? = some none := by
    intro q hq hqc
    obtain ⟨i, hi, ei⟩ := step_all (L := L) hm hq
    rw [hqc] at ei
    obtain ⟨e, e1, _⟩ := hc q hq hqc
    cases e with
    | none => exact e1
    | some u => exact absurd (by rw [ei]; exact e1) (hn i hi u)
  intro r hr hrc
  refine ⟨none, key r hr hrc, ?_⟩
  intro s hs hsr
  obtain ⟨s0, k, g1, rfl⟩ := sums_more.mp hs
  obtain ⟨i, _, gi⟩ := step_from (a := r) hm (by rw [hsr, Nat.mod_eq_of_lt hr])
  have gc : s0 % m % Nat.gcd L m = p := by rw [gi, step_class]; exact hrc
  obtain ⟨e, e1, e2⟩ := hc (s0 % m) (Nat.mod_lt _ hm) gc
  rw [key _ (Nat.mod_lt _ hm) gc] at e1
  cases e1
  exact e2 s0 g1 rfl
theorem round_put (hm : 0 < m) {p a t v : Nat} {lv av : List (Option Nat)} (hc : ClassOk ls L m p lv0) (h2 : a % Nat.gcd L m = p) (ht : t + 1 < rnd L m) (I : RInv ls L m a lv0 t v lv av)
    (hn : ∀ u, lv[(v + L) % m]? = some (some u) → v + L < u) : RInv ls L m a lv0 (t + 1) (v + L) (lv.set ((v + L) % m) (some (v + L))) (av.set ((v + L) % m) (some L)) := by
  have hv : v % m = (a + t * L) % m := by
    obtain ⟨e, e1, e2⟩ := I.done t (Nat.le_refl t)
    rw [I.cur] at e1
    cases e1
    exact e2.2.1
  have hr : (v + L) % m = (a + (t + 1) * L) % m := by
    rw [Nat.add_mod, hv, ← Nat.add_mod, Nat.succ_mul, Nat.add_assoc]
  have hlt : (v + L) % m < lv.length := by rw [I.len]; exact Nat.mod_lt _ hm
  have hvS : Sums (ls ++ [L]) v := by
    obtain ⟨e, e1, e2⟩ := I.done t (Nat.le_refl t)
    rw [I.cur] at e1
    cases e1
    exact e2.1
  refine ⟨by simp [I.len], ?_, ?_, ?_, ?_⟩
  · rw [hr, List.getElem?_set, if_pos rfl, if_pos (by rw [← hr]; exact hlt)]
  · intro u hu
    by_cases hq : u = t + 1
    · subst hq
      rw [← hr]
      refine ⟨some (v + L), by rw [List.getElem?_set, if_pos rfl, if_pos hlt], .add hvS (by simp), rfl, ?_⟩
      intro s hs hsr
      obtain ⟨s0, k, g1, rfl⟩ := sums_more.mp hs
      cases k with
      | zero =>
        simp only [Nat.zero_mul, Nat.add_zero] at hsr ⊢
        have hnot : ∀ u, u ≤ t → (a + u * L) % m ≠ (v + L) % m := fun u hu => by rw [hr]; exact (step_ne hm (by omega) (by omega)).symm
        have e0 := I.rest _ (Nat.mod_lt (v + L) hm) hnot
        obtain ⟨e, e1, e2⟩ := hc ((v + L) % m) (Nat.mod_lt _ hm) (by rw [hr, step_class]; exact h2)
        cases e with
        | none => exact absurd hsr (e2 s0 g1)
        | some w =>
          have := hn w (by rw [e0]; exact e1)
          have := e2.2.2 s0 g1 hsr
          omega
      | succ k =>
        obtain ⟨e, e1, e2⟩ := I.done t (Nat.le_refl t)
        rw [I.cur] at e1
        cases e1
        have h5 : (s0 + k * L) % m = (a + t * L) % m := by
          rw [← hv]
          have h6 : (s0 + k * L + L) % m = (v + L) % m := by rw [← hsr, Nat.succ_mul, Nat.add_assoc]
          exact add_mod_cancel h6
        have := e2.2.2 (s0 + k * L) (sums_more.mpr ⟨s0, k, g1, rfl⟩) h5
        rw [Nat.succ_mul]
        omega
    · obtain ⟨e, e1, e2⟩ := I.done u (by omega)
      refine ⟨e, ?_, e2⟩
      rw [List.getElem?_set, if_neg ?_]
      · exact e1
      · rw [hr]
        exact step_ne hm (by omega) (by omega)
  · intro r hr2 hnr
    rw [List.getElem?_set, if_neg ?_]
    · exact I.rest r hr2 fun u hu => hnr u (by omega)
    · rw [hr]
      exact hnr (t + 1) (Nat.le_refl _)
  · exact I.add.set hlt (by simp) (by omega) (by rw [Nat.add_sub_cancel]; exact hvS)
theorem round_keep (hm : 0 < m) {p a t v u : Nat} {lv av : List (Option Nat)} (hc : ClassOk ls L m p lv0) (h2 : a % Nat.gcd L m = p) (ht : t + 1 < rnd L m) (I : RInv ls L m a lv0 t v lv av)
    (hu : lv[(v + L) % m]? = some (some u)) (hn : u ≤ v + L) : RInv ls L m a lv0 (t + 1) u lv av := by
  have hv : v % m = (a + t * L) % m := by
    obtain ⟨e, e1, e2⟩ := I.done t (Nat.le_refl t)
    rw [I.cur] at e1
    cases e1
    exact e2.2.1
  have hr : (v + L) % m = (a + (t + 1) * L) % m := by
    rw [Nat.add_mod, hv, ← Nat.add_mod, Nat.succ_mul, Nat.add_assoc]
  have hnot : ∀ u, u ≤ t → (a + u * L) % m ≠ (v + L) % m := fun u hu => by rw [hr]; exact (step_ne hm (by omega) (by omega)).symm
  refine ⟨I.len, by rw [← hr]; exact hu, ?_, fun r h3 h4 => I.rest r h3 fun q hq => h4 q (by omega), I.add⟩
  intro q hq
  by_cases hqt : q = t + 1
  · subst hqt
    rw [← hr]
    refine ⟨some u, hu, ?_⟩
    have e0 := I.rest _ (Nat.mod_lt (v + L) hm) hnot
    obtain ⟨e, e1, e2⟩ := hc ((v + L) % m) (Nat.mod_lt _ hm) (by rw [hr, step_class]; exact h2)
    rw [← e0, hu] at e1
    cases e1
    refine ⟨sums_more.mpr ⟨u, 0, e2.1, by simp⟩, e2.2.1, ?_⟩
    intro s hs hsr
    obtain ⟨s0, k, g1, rfl⟩ := sums_more.mp hs
    cases k with
    | zero =>
      simp only [Nat.zero_mul, Nat.add_zero] at hsr ⊢
      exact e2.2.2 s0 g1 hsr
    | succ k =>
      obtain ⟨e, f1, f2⟩ := I.done t (Nat.le_refl t)
      rw [I.cur] at f1
      cases f1
      have h5 : (s0 + k * L) % m = (a + t * L) % m := by
        rw [← hv]
        have h6 : (s0 + k * L + L) % m = (v + L) % m := by rw [← hsr, Nat.succ_mul, Nat.add_assoc]
        exact add_mod_cancel h6
      have := f2.2.2 (s0 + k * L) (sums_more.mpr ⟨s0, k, g1, rfl⟩) h5
      rw [Nat.succ_mul]
      omega
  · exact I.done q (by omega)
/-- behind the round: the class of p is that of ls and L, the others are as they were -/
theorem round_end (hm : 0 < m) {p a v : Nat} {lv av : List (Option Nat)} (h2 : a % Nat.gcd L m = p) (I : RInv ls L m a lv0 (rnd L m - 1) v lv av) :
    (∀ r, r < m → r % Nat.gcd L m = p → ∃ e, lv[r]? = some e ∧ EntOk (Sums (ls ++ [L])) m r e) ∧ (∀ r, r < m → r % Nat.gcd L m ≠ p → lv[r]? = lv0[r]?) := by
  have hp := rnd_pos (L := L) hm
  constructor
  · intro r hr hc
    obtain ⟨i, hi, ei⟩ := step_all (L := L) hm hr
    rw [hc] at ei
    -- r = p + iL, a = p + jL: r = a + (i + n - j)L
    obtain ⟨j, hj, ej⟩ := step_all (L := L) hm (Nat.mod_lt a hm)
    rw [Nat.mod_mod_of_dvd _ (Nat.gcd_dvd_right L m), h2] at ej
    have e : (a + (i + (rnd L m - j)) * L) % m = r := by
      rw [Nat.add_mod, ← ej, ← Nat.add_mod]
      have : p + j * L + (i + (rnd L m - j)) * L = p + i * L + 1 * rnd L m * L := by
        rw [Nat.one_mul, Nat.add_assoc, Nat.add_assoc, ← Nat.add_mul, ← Nat.add_mul]
        congr 2
        omega
      rw [this, step_back hm]
      exact ei
    rw [step_mod hm] at e
    have := I.done ((i + (rnd L m - j)) % rnd L m) (by have := Nat.mod_lt (i + (rnd L m - j)) hp; omega)
    rw [e] at this
    exact this
  · intro r hr hc
    refine I.rest r hr fun u _ e => hc ?_
    rw [← e, step_class]
    exact h2
end

/-! ### a table answers -/
theorem tab_first {m : Nat} (hm : 0 < m) : TabOk [m] m ((List.replicate m none).set 0 (some 0)) (List.replicate m none) := by
  have key : ∀ {s}, Sums [m] s → s % m = 0 := by
    intro s h
    induction h with
    | zero => simp
    | add _ h ih =>
      have := List.mem_singleton.mp h
      subst this
      rw [Nat.add_mod_right]
      exact ih
  refine ⟨by simp, ?_, ?_⟩
  · intro r hr
    rw [List.getElem?_set]
    by_cases h : 0 = r
    · subst h
      rw [if_pos rfl, if_pos (by simpa using hm)]
      exact ⟨_, rfl, .zero, by simp, fun s _ _ => Nat.zero_le s⟩
    · rw [if_neg h, List.getElem?_replicate, if_pos hr]
      exact ⟨_, rfl, fun s hs e => h (by rw [← e, key hs])⟩
  · refine ⟨by simp, ?_, ?_⟩
    · intro r L e
      rw [List.getElem?_replicate] at e
      split at e <;> cases e
    · intro r t hr e
      rw [List.getElem?_set, if_neg (fun z => hr z.symm), List.getElem?_replicate] at e
      split at e <;> cases e
theorem tab_has {ls : List Nat} {m t : Nat} {lv av : List (Option Nat)} (T : TabOk ls m lv av) (hm : m ∈ ls) (h0 : 0 < m) :
    Sums ls t ↔ ∃ u, lv[t % m]? = some (some u) ∧ u ≤ t := by
  obtain ⟨e, e1, e2⟩ := T.ent (t % m) (Nat.mod_lt _ h0)
  constructor
  · intro h
    cases e with
    | none => exact absurd rfl (e2 t h)
    | some u => exact ⟨u, e1, e2.2.2 t h rfl⟩
  · rintro ⟨u, h1, h2⟩
    rw [h1] at e1
    cases e1
    have : t = u + (t - u) / m * m := by
      have hd : m ∣ t - u := Nat.dvd_of_mod_eq_zero (Nat.sub_mod_eq_zero_of_mod_eq e2.2.1.symm)
      rw [Nat.div_mul_cancel hd]
      omega
    rw [this]
    exact Sums.mul hm e2.1 _
end Ov

set_option linter.all false
namespace Ov
/-! ### divisors -/
def gcdL (ls : List Nat) : Nat := ls.foldl Nat.gcd 0
theorem gcd_fold_dvd : ∀ (ls : List Nat) (a : Nat), ls.foldl Nat.gcd a ∣ a ∧ ∀ x ∈ ls, ls.foldl Nat.gcd a ∣ x
  | [], a => ⟨Nat.dvd_refl a, fun x h => absurd h List.not_mem_nil⟩
  | y :: ls, a => by
    have ih := gcd_fold_dvd ls (Nat.gcd a y)
    refine ⟨Nat.dvd_trans ih.1 (Nat.gcd_dvd_left a y), ?_⟩
    intro x hx
    rcases List.mem_cons.mp hx with rfl | hx
    · exact Nat.dvd_trans ih.1 (Nat.gcd_dvd_right a x)
    · exact ih.2 x hx
theorem dvd_gcd_fold : ∀ (ls : List Nat) (a d : Nat), d ∣ a → (∀ x ∈ ls, d ∣ x) → d ∣ ls.foldl Nat.gcd a
  | [], a, d, h, _ => h
  | y :: ls, a, d, h, h2 => dvd_gcd_fold ls _ d (Nat.dvd_gcd h (h2 y (List.mem_cons_self ..))) fun x hx => h2 x (List.mem_cons_of_mem _ hx)
theorem gcdL_dvd {ls : List Nat} {x : Nat} (h : x ∈ ls) : gcdL ls ∣ x := (gcd_fold_dvd ls 0).2 x h
theorem dvd_gcdL {ls : List Nat} {d : Nat} (h : ∀ x ∈ ls, d ∣ x) : d ∣ gcdL ls := dvd_gcd_fold ls 0 d (Nat.dvd_zero d) h
theorem gcdL_pos {ls : List Nat} {x : Nat} (h : x ∈ ls) (hx : 0 < x) : 0 < gcdL ls := Nat.pos_of_dvd_of_pos (gcdL_dvd h) hx

/-! ### a least sum is below m times the greatest length -/
theorem sums_list {ls : List Nat} {t : Nat} : Sums ls t ↔ ∃ as : List Nat, (∀ a ∈ as, a ∈ ls) ∧ as.sum = t := by
  constructor
  · intro h
    induction h with
    | zero => exact ⟨[], fun a h => absurd h List.not_mem_nil, rfl⟩
    | @add t a _ hm ih =>
      obtain ⟨as, h1, h2⟩ := ih
      refine ⟨a :: as, ?_, by rw [List.sum_cons, h2, Nat.add_comm]⟩
      intro x hx
      rcases List.mem_cons.mp hx with rfl | hx
      · exact hm
      · exact h1 x hx
  · rintro ⟨as, h1, rfl⟩
    induction as with
    | nil => exact .zero
    | cons a as ih =>
      rw [List.sum_cons, Nat.add_comm]
      exact .add (ih fun x hx => h1 x (List.mem_cons_of_mem _ hx)) (h1 a (List.mem_cons_self ..))
theorem nodup_below : ∀ (m : Nat) (l : List Nat), l.Nodup → (∀ x ∈ l, x < m) → l.length ≤ m
  | 0, l, _, h => by
    cases l with
    | nil => exact Nat.le_refl 0
    | cons a r => exact absurd (h a (List.mem_cons_self ..)) (Nat.not_lt_zero a)
  | m + 1, l, hn, h => by
    have h1 := nodup_below m (l.erase m) (hn.erase m) (fun x hx => by
      have h2 := (List.Nodup.mem_erase_iff hn).mp hx
      have := h x h2.2
      have := h2.1
      omega)
    have h2 : l.length ≤ (l.erase m).length + 1 := by
      rw [List.length_erase]
      split <;> omega
    omega
theorem pigeon {m : Nat} (f : Nat → Nat) (hf : ∀ i, f i < m) : ∃ i j, i < j ∧ j ≤ m ∧ f i = f j := by
  refine Classical.byContradiction fun hno => ?_
  have hnd : ((List.range (m + 1)).map f).Nodup := by
    rw [List.Nodup, List.pairwise_map]
    have h1 := List.pairwise_lt_range (n := m + 1)
    refine h1.imp_of_mem ?_
    intro a b ha hb hab e
    exact hno ⟨a, b, hab, by have := List.mem_range.mp hb; omega, e⟩
  have := nodup_below m _ hnd (fun x hx => by
    obtain ⟨i, _, rfl⟩ := List.mem_map.mp hx
    exact hf i)
  rw [List.length_map, List.length_range] at this
  omega
theorem sum_le_mul : ∀ {as : List Nat} {M : Nat}, (∀ a ∈ as, a ≤ M) → as.sum ≤ as.length * M
  | [], M, _ => by simp
  | a :: as, M, h => by
    have h1 := h a (List.mem_cons_self ..)
    have h2 := sum_le_mul (as := as) fun x hx => h x (List.mem_cons_of_mem _ hx)
    rw [List.sum_cons, List.length_cons, Nat.succ_mul]
    omega
theorem sum_pos_of {as : List Nat} (h : ∀ a ∈ as, 1 ≤ a) (hl : 0 < as.length) : 0 < as.sum := by
  cases as with
  | nil => exact absurd hl (Nat.lt_irrefl 0)
  | cons a as =>
    have := h a (List.mem_cons_self ..)
    rw [List.sum_cons]
    omega
theorem least_bound {ls : List Nat} {m M t r : Nat} (hm : 0 < m) (hp : ∀ x ∈ ls, 1 ≤ x) (hM : ∀ x ∈ ls, x ≤ M) (h : EntOk (Sums ls) m r (some t)) : t ≤ (m - 1) * M := by
  obtain ⟨as, h1, h2⟩ := sums_list.mp h.1
  have hlen : as.length < m := by
    refine Classical.byContradiction fun hno => ?_
    obtain ⟨i, j, hij, hjm, e⟩ := pigeon (m := m) (fun k => (as.take k).sum % m) (fun k => Nat.mod_lt _ hm)
    have e : (as.take i).sum % m = (as.take j).sum % m := e
    have hj : j ≤ as.length := by omega
    have hsplit : as.sum = (as.take j).sum + (as.drop j).sum := by rw [← List.sum_append, List.take_append_drop]
    have hsplit2 : (as.take j).sum = (as.take i).sum + ((as.take j).drop i).sum := by
      have h5 : (as.take j).take i = as.take i := by rw [List.take_take, Nat.min_eq_left (by omega)]
      rw [← h5, ← List.sum_append, List.take_append_drop]
    have hpos : 0 < ((as.take j).drop i).sum := by
      refine sum_pos_of (fun a ha => hp a (h1 a (List.mem_of_mem_take (List.mem_of_mem_drop ha)))) ?_
      rw [List.length_drop, List.length_take]
      omega
    have hS : Sums ls ((as.take i).sum + (as.drop j).sum) := by
      refine sums_list.mpr ⟨as.take i ++ as.drop j, ?_, by rw [List.sum_append]⟩
      intro a ha
      rcases List.mem_append.mp ha with ha | ha
      · exact h1 a (List.mem_of_mem_take ha)
      · exact h1 a (List.mem_of_mem_drop ha)
    have hr : ((as.take i).sum + (as.drop j).sum) % m = r := by
      rw [Nat.add_mod, e, ← Nat.add_mod, ← hsplit, h2]
      exact h.2.1
    have := h.2.2 _ hS hr
    omega
  have h3 : as.sum ≤ as.length * M := sum_le_mul fun a ha => hM a (h1 a ha)
  have h4 : as.length * M ≤ (m - 1) * M := Nat.mul_le_mul_right M (by omega)
  omega
/-- entries of one class are one -/
theorem ent_unique {S : Nat → Prop} {m r : Nat} : ∀ {e f : Option Nat}, EntOk S m r e → EntOk S m r f → e = f
  | none, none, _, _ => rfl
  | none, some u, h, g => absurd g.2.1 (h u g.1)
  | some t, none, h, g => absurd h.2.1 (g t h.1)
  | some t, some u, h, g => by
    have h1 := h.2.2 u g.1 g.2.1
    have h2 := g.2.2 t h.1 h.2.1
    have : t = u := by omega
    rw [this]
theorem tab_unique {ls : List Nat} {m : Nat} {lv lw : List (Option Nat)} (h1 : lv.length = m) (h2 : lw.length = m) (e1 : ∀ r, r < m → ∃ e, lv[r]? = some e ∧ EntOk (Sums ls) m r e)
    (e2 : ∀ r, r < m → ∃ e, lw[r]? = some e ∧ EntOk (Sums ls) m r e) : lv = lw := by
  refine List.ext_getElem? fun r => ?_
  by_cases hr : r < m
  · obtain ⟨e, g1, g2⟩ := e1 r hr
    obtain ⟨f, g3, g4⟩ := e2 r hr
    rw [g1, g3, ent_unique g2 g4]
  · rw [List.getElem?_eq_none (by omega), List.getElem?_eq_none (by omega)]
/-! ### finding least sums by going up -/
def EntLt (S : Nat → Prop) (m r i : Nat) : Option Nat → Prop
  | none => ∀ s, s < i → S s → s % m ≠ r
  | some t => S t ∧ t % m = r ∧ ∀ s, S s → s % m = r → t ≤ s
theorem entlt_skip {S : Nat → Prop} {m r i : Nat} (h : ¬ (S i ∧ i % m = r)) : ∀ {e : Option Nat}, EntLt S m r i e → EntLt S m r (i + 1) e
  | none, g => fun s hs hS => by
    by_cases e : s = i
    · subst e
      exact fun e => h ⟨hS, e⟩
    · exact g s (by omega) hS
  | some _, g => g
theorem entlt_keep {S : Nat → Prop} {m r i t : Nat} (g : EntLt S m r i (some t)) : EntLt S m r (i + 1) (some t) := g
theorem entlt_new {S : Nat → Prop} {m i : Nat} (hS : S i) (g : EntLt S m (i % m) i none) : EntLt S m (i % m) (i + 1) (some i) := by
  refine ⟨hS, rfl, ?_⟩
  intro s hs hr
  refine Nat.le_of_not_lt fun h => g s h hs hr
theorem least_exists {S : Nat → Prop} {m r : Nat} : ∀ s, S s → s % m = r → ∃ t, EntOk S m r (some t) := by
  intro s
  induction s using Nat.strongRecOn with
  | ind s ih =>
    intro hs hr
    by_cases h : ∃ u, u < s ∧ S u ∧ u % m = r
    · obtain ⟨u, h1, h2, h3⟩ := h
      exact ih u h1 h2 h3
    · refine ⟨s, hs, hr, ?_⟩
      intro u hu hur
      refine Nat.le_of_not_lt fun hlt => h ⟨u, hlt, hu, hur⟩
theorem entlt_end {ls : List Nat} {m M r i : Nat} (hm : 0 < m) (hp : ∀ x ∈ ls, 1 ≤ x) (hM : ∀ x ∈ ls, x ≤ M) (hi : (m - 1) * M < i) : ∀ {e : Option Nat}, EntLt (Sums ls) m r i e → EntOk (Sums ls) m r e
  | none, g => fun s hs hr => by
    obtain ⟨t, ht⟩ := least_exists s hs hr
    have := least_bound hm hp hM ht
    exact g t (by omega) ht.1 ht.2.1
  | some _, g => g
end Ov

set_option maxHeartbeats 4000000
namespace Ov
open PySem PySem.Spec PyProof.Rows L2 RZ

theorem le_line {n : Nat} (h : n ≤ 100000) : n ≤ sizeLine := Nat.le_trans h (by decide)
theorem lt_line {n : Nat} (h : n ≤ 100000) : n < sizeLine := Nat.lt_of_le_of_lt h (by decide)
theorem get_map {α : Type} {g : α → V} {ns : List α} {i : Nat} {x : V} (h : (ns.map g)[i]? = some x) : ∃ n, ns[i]? = some n ∧ x = g n := by
  rw [List.getElem?_map] at h
  cases e : ns[i]? with
  | none => rw [e] at h; cases h
  | some n => rw [e] at h; exact ⟨n, rfl, (Option.some.inj h).symm⟩

/-! ### isinstance with a built-in class -/
inductive Kd | non | bl | int | str | lst | tup | dic
instance : Plain Kd := ⟨trivial⟩
def Kd.ty : Kd → String
  | .non => "NoneType" | .bl => "bool" | .int => "int" | .str => "str" | .lst => "list" | .tup => "tuple" | .dic => "dict"
def Kd.isInt : Kd → Bool | .int => true | .bl => true | _ => false
def Kd.isBool : Kd → Bool | .bl => true | _ => false
def Kd.isStr : Kd → Bool | .str => true | _ => false
def Kd.isTuple : Kd → Bool | .tup => true | _ => false
def Kd.isList : Kd → Bool | .lst => true | _ => false
def Kd.isDict : Kd → Bool | .dic => true | _ => false
inductive HasKd (K : PySem.W.Frag) (H : Hp) : V → Kd → Prop
  | non : HasKd K H .non .non
  | bl (b : Bool) : HasKd K H (.bl b) .bl
  | int (i : Int) : HasKd K H (.int i) .int
  | str (x : Str) : HasKd K H (.str x) .str
  | lst {a : Addr} {xs : List V} (h : SqL K H a xs) : HasKd K H (.ref a) .lst
  | tup {a : Addr} {xs : List V} (h : SqT K H a xs) : HasKd K H (.ref a) .tup
  | dic {a : Addr} {kvs : List (Key × V)} (h : H a = some (.dK kvs)) : HasKd K H (.ref a) .dic
theorem HasKd.tyx {K : PySem.W.Frag} {H : Hp} {v : V} {k : Kd} (h : HasKd K H v k) : TyX K H v (.type k.ty) := by
  cases h with
  | non => exact .base .non
  | bl b => exact .base (.bl b)
  | int i => exact .base (.int i)
  | str x => exact .base (.str x)
  | lst h =>
    rcases h with (h | ⟨o, h⟩) | ⟨o, its, n, h1, h2, _⟩
    · exact .base (.lst h)
    · exact .base (.frz h)
    · exact .kList h1 h2
  | tup h =>
    rcases h with (h | ⟨o, h⟩) | ⟨o, its, n, h1, h2, _⟩
    · exact .base (.tup h)
    · exact .fTuple h
    · exact .kTuple h1 h2
  | dic h => exact .base (.dK h)
theorem HasKd.same {K : PySem.W.Frag} {H H' : Hp} {v : V} {k : Kd} (s : Same H H') (h : HasKd K H v k) : HasKd K H' v k := by
  cases h with
  | non => exact .non
  | bl b => exact .bl b
  | int i => exact .int i
  | str x => exact .str x
  | lst h => exact .lst (s.seq h)
  | tup h => exact .tup (Same.seqT s h)
  | dic h => exact .dic (s _ _ h)
def rIsa (K : PySem.W.Frag) (T : String) (f : Kd → Bool) : List V → Hp → VK → Prop := fun xs H Q => ∃ x k, xs = [x, .ty T] ∧ HasKd K H x k ∧ Q (.bl (f k)) H
theorem isa_mk {X : Cx} {T : String} {f : Kd → Bool} (h : ∀ k : Kd, kitB k.ty T = some (f k)) : CallR X (.builtin "isinstance") (rIsa X.K T f) := by
  intro pins s σ H xs us Q I r hq
  obtain ⟨x, k, rfl, hk, q⟩ := hq
  exact call_isi pins s σ H _ us Q I r ⟨x, .ty T, .type k.ty, .type T, f k, rfl, .ty T, hk.tyx, kit_ty (h k), q⟩
theorem isa_int {X : Cx} : CallR X (.builtin "isinstance") (rIsa X.K "int" Kd.isInt) := isa_mk fun k => by cases k <;> decide +kernel
theorem isa_bool {X : Cx} : CallR X (.builtin "isinstance") (rIsa X.K "bool" Kd.isBool) := isa_mk fun k => by cases k <;> decide +kernel
theorem isa_str {X : Cx} : CallR X (.builtin "isinstance") (rIsa X.K "str" Kd.isStr) := isa_mk fun k => by cases k <;> decide +kernel
theorem isa_tuple {X : Cx} : CallR X (.builtin "isinstance") (rIsa X.K "tuple" Kd.isTuple) := isa_mk fun k => by cases k <;> decide +kernel
theorem isa_list {X : Cx} : CallR X (.builtin "isinstance") (rIsa X.K "list" Kd.isList) := isa_mk fun k => by cases k <;> decide +kernel
theorem isa_dict {X : Cx} : CallR X (.builtin "isinstance") (rIsa X.K "dict" Kd.isDict) := isa_mk fun k => by cases k <;> decide +kernel

theorem ix_of {n : Nat} {z : Int} {j : Nat} (e : z = (j : Int)) (h : j < n) : ixN n z = some j := by
  subst e
  unfold ixN
  rw [if_pos (by omega), if_pos (by omega)]
  simp
/-! ### what the small defs promise -/
/-- a natural number as a value, one that may lack -/
def nV (n : Nat) : V := .int (n : Int)
def oV : Option Nat → V
  | none => .non
  | some n => .int (n : Int)
def LensOk (ls : List Nat) : Prop := ls.length ≤ 50 ∧ (∀ x ∈ ls, 1 ≤ x ∧ x ≤ 1000) ∧ ls.Pairwise (· < ·)
def spCheckLens (K : PySem.W.Frag) : Sp := fun vs H Q _ => ∃ (a : Addr) (ls : List Nat), vs = [.ref a] ∧ SqT K H a (ls.map nV) ∧ LensOk ls ∧ ∀ H', Same H H' → Q .non H'
def spGcd : Sp := fun vs H Q _ => ∃ m n : Nat, vs = [.int (m : Int), .int (n : Int)] ∧ Q (.int ((Nat.gcd m n : Nat) : Int)) H

def isIntV : V → Int → Int → Bool
  | .int i, lo, hi => decide (lo ≤ i) && decide (i ≤ hi)
  | _, _, _ => false
def spIsInteger (K : PySem.W.Frag) : Sp := fun vs H Q _ => ∃ (v : V) (lo hi : Int) (k : Kd), vs = [v, .int lo, .int hi] ∧ HasKd K H v k ∧ Q (.bl (isIntV v lo hi)) H
/-- ascending, without duplicates -/
def asc : List Int → Bool
  | [] => true
  | [_] => true
  | a :: b :: r => decide (a < b) && asc (b :: r)
theorem asc_iff : ∀ ns : List Int, asc ns = true ↔ ns.Pairwise (· < ·)
  | [] => by simp [asc]
  | [a] => by simp [asc]
  | a :: b :: r => by
    have ih := asc_iff (b :: r)
    simp only [asc, Bool.and_eq_true, decide_eq_true_eq, ih, List.pairwise_cons]
    constructor
    · rintro ⟨h1, h2, h3⟩
      refine ⟨?_, h2, h3⟩
      intro c hc
      rcases List.mem_cons.mp hc with rfl | hc
      · exact h1
      · exact Int.lt_trans h1 (h2 c hc)
    · rintro ⟨h1, h2, h3⟩
      exact ⟨h1 b (List.mem_cons_self ..), h2, h3⟩
theorem asc_range : ∀ ns : List Int, asc ns = ((List.range (ns.length - 1)).map fun i => decide (ns.getD i 0 < ns.getD (i + 1) 0)).all id
  | [] => by simp [asc]
  | [a] => by simp [asc]
  | a :: b :: r => by
    have ih := asc_range (b :: r)
    simp only [asc, ih, List.length_cons]
    rw [show r.length + 1 + 1 - 1 = (r.length + 1 - 1) + 1 by omega, List.range_succ_eq_map]
    simp [List.map_map, Function.comp_def]
def spAsc (K : PySem.W.Frag) : Sp := fun vs H Q _ => ∃ (a : Addr) (ns : List Int), vs = [.ref a] ∧ SqT K H a (ns.map V.int) ∧ ns.length ≤ 100000 ∧
  ∀ H', Same H H' → Q (.bl (asc ns)) H'

/-! ### SumTable -/
/-- what the walk asks of the class -/
structure TabTxt (K : PySem.W.Frag) (mg : Str → Option Value) (C : Addr) : Prop where
  cl : Cls K C
  nM : NoAttr K C "modulus"
  nL : NoAttr K C "least"
  nA : NoAttr K C "added"
structure TabFs (m : Nat) (l a : Addr) (fs : List (Str × V)) : Prop where
  fM : fs.lookup ("modulus" : Str) = some (.int (m : Int))
  fL : fs.lookup ("least" : Str) = some (.ref l)
  fA : fs.lookup ("added" : Str) = some (.ref a)
  n1 : fs.lookup ("add_length" : Str) = none
  n2 : fs.lookup ("go_round" : Str) = none
  n3 : fs.lookup ("has" : Str) = none
/-- a table at p, its lists at l and a -/
structure TabAt (C : Addr) (H : Hp) (p l a : Addr) (m : Nat) (lv av : List (Option Nat)) : Prop where
  ob : ∃ dx fs, H p = some (.ins C dx fs) ∧ TabFs m l a fs
  hl : H l = some (.lst (lv.map oV))
  ha : H a = some (.lst (av.map oV))
  ne : l ≠ a
theorem TabAt.same {C : Addr} {H H' : Hp} {p l a : Addr} {m : Nat} {lv av : List (Option Nat)} (t : TabAt C H p l a m lv av) (s : Same H H') : TabAt C H' p l a m lv av := by
  obtain ⟨⟨dx, fs, h1, h2⟩, h3, h4, h5⟩ := t
  exact ⟨⟨dx, fs, s _ _ h1, h2⟩, s _ _ h3, s _ _ h4, h5⟩
/-- what stands elsewhere is kept -/
def Same2 (l a : Addr) (H H' : Hp) : Prop := ∀ b o, b ≠ l → b ≠ a → H b = some o → H' b = some o
def spRound (C : Addr) : Sp := fun vs H Q _ => ∃ (p l a : Addr) (r L m : Nat) (ls : List Nat) (lv av : List (Option Nat)), vs = [.ref p, .int (r : Int), .int (L : Int)] ∧
  TabAt C H p l a m lv av ∧ 0 < m ∧ m ≤ 1000 ∧ 0 < L ∧ L ≤ 1000 ∧ r < Nat.gcd L m ∧ lv.length = m ∧ ClassOk ls L m r lv ∧ AOk (Sums (ls ++ [L])) (ls ++ [L]) lv av ∧
  ∀ lv' av' H', lv'.length = m → (∀ q, q < m → q % Nat.gcd L m = r → ∃ e, lv'[q]? = some e ∧ EntOk (Sums (ls ++ [L])) m q e) →
    (∀ q, q < m → q % Nat.gcd L m ≠ r → lv'[q]? = lv[q]?) → AOk (Sums (ls ++ [L])) (ls ++ [L]) lv' av' →
    TabAt C H' p l a m lv' av' → Same2 l a H H' → Q .non H'
end Ov

set_option maxHeartbeats 4000000
namespace Ov
open PySem PySem.Spec PyProof.Rows L2 RZ

/-! ### the rules with the written part named (a comprehension's block has the same) -/
section
variable {X : Cx}
theorem k_ixL (K : PySem.W.Frag) (h : X.K = K := by rfl) : IxR X (rIxL K) := h ▸ ix_list
theorem k_ixT (K : PySem.W.Frag) (h : X.K = K := by rfl) : IxR X (rIxT K) := h ▸ ix_tup
theorem k_in (K : PySem.W.Frag) (h : X.K = K := by rfl) : OpR X (compareOp .In) (rIn K false) := h ▸ op_in_seq
theorem k_notIn (K : PySem.W.Frag) (h : X.K = K := by rfl) : OpR X (compareOp .NotIn) (rIn K true) := h ▸ op_notIn_seq
theorem k_slL (K : PySem.W.Frag) (h : X.K = K := by rfl) : SlR X (rSlL K) := h ▸ sl_list
theorem k_slT (K : PySem.W.Frag) (h : X.K = K := by rfl) : SlR X (rSlU K) := h ▸ sl_tupU
theorem k_catT (K : PySem.W.Frag) (h : X.K = K := by rfl) : OpR X (binaryOp .Add) (rCatU K) := h ▸ op_catU
theorem k_eqD (K : PySem.W.Frag) (hu : X.A.units + 64 < cLine) (h : X.K = K := by rfl) : OpR X (compareOp .Eq) (rEqD K) := h ▸ op_eqD hu
theorem k_neD (K : PySem.W.Frag) (hu : X.A.units + 64 < cLine) (h : X.K = K := by rfl) : OpR X (compareOp .NotEq) (rNeD K) := h ▸ op_neD hu
def rLenS (K : PySem.W.Frag) : List V → Hp → VK → Prop := fun xs H Q => ∃ p ys, xs = [.ref p] ∧ (SqL K H p ys ∨ SqT K H p ys) ∧ Q (.int (ys.length : Int)) H
theorem k_len (K : PySem.W.Frag) (h : X.K = K := by rfl) : CallR X (.builtin "len") (rLenS K) := h ▸ call_len_seq
theorem k_all (K : PySem.W.Frag) (hc : X.calm = true := by rfl) (h : X.K = K := by rfl) : CallR X (.builtin "all") (rAll K) := h ▸ cr_all hc
theorem k_any (K : PySem.W.Frag) (hc : X.calm = true := by rfl) (h : X.K = K := by rfl) : CallR X (.builtin "any") (rAny K) := h ▸ cr_any hc
theorem k_sum (K : PySem.W.Frag) (hc : X.calm = true := by rfl) (h : X.K = K := by rfl) : CallR X (.builtin "sum") (rSum K) := h ▸ cr_sum hc
theorem k_min (K : PySem.W.Frag) (hc : X.calm = true := by rfl) (h : X.K = K := by rfl) : CallR X (.builtin "min") (rMin K) := h ▸ cr_min hc
theorem k_max (K : PySem.W.Frag) (hc : X.calm = true := by rfl) (h : X.K = K := by rfl) : CallR X (.builtin "max") (rMax K) := h ▸ cr_max hc
theorem k_sorted (K : PySem.W.Frag) (h : X.K = K := by rfl) : CallR X (.builtin "sorted") (rSortedI K) := h ▸ cr_sortedI
def rTupU (K : PySem.W.Frag) : List V → Hp → VK → Prop := fun xs H Q => ∃ p ys, xs = [.ref p] ∧ (SqL K H p ys ∨ SqT K H p ys) ∧ ∀ q H', Same H H' → SqT K H' q ys → Q (.ref q) H'
theorem k_tuple (K : PySem.W.Frag) (h : X.K = K := by rfl) : CallR X (.type "tuple") (rTupU K) := by
  subst h
  intro pins s σ H xs us Q I r hq
  obtain ⟨p, ys, e, hs, q⟩ := hq
  refine call_tuple_of pins s σ H xs us Q I r ⟨p, ys, e, ?_⟩
  rcases hs with hs | hs
  · exact .inl ⟨hs, fun l hl => q l _ (same_new hl) (sqT_of upd_same)⟩
  · exact .inr ⟨hs, q p H (Same.refl H) hs⟩
def rListU (K : PySem.W.Frag) : List V → Hp → VK → Prop := fun xs H Q => ∃ p ys, xs = [.ref p] ∧ (SqL K H p ys ∨ SqT K H p ys) ∧ ∀ l, H l = none → Q (.ref l) (upd H l (.lst ys))
theorem k_list (K : PySem.W.Frag) (h : X.K = K := by rfl) : CallR X (.type "list") (rListU K) := h ▸ call_list_of
theorem k_repr (K : PySem.W.Frag) (hg : X.A.guards = some []) (hu : X.A.units + 64 < cLine) (h : X.K = K := by rfl) : CallR X (.builtin "repr") (fun xs H Q =>
    ∃ x d, xs = [x] ∧ Dp K H x d ∧ d.showable = true ∧ d.depth ≤ 60 ∧ d.shown.length ≤ sizeLine ∧ Q (.str d.shown) H) := h ▸ call_reprD hg hu
theorem k_isInt (K : PySem.W.Frag) (h : X.K = K := by rfl) : CallR X (.builtin "isinstance") (rIsa K "int" Kd.isInt) := h ▸ isa_int
theorem k_isBool (K : PySem.W.Frag) (h : X.K = K := by rfl) : CallR X (.builtin "isinstance") (rIsa K "bool" Kd.isBool) := h ▸ isa_bool
theorem k_isStr (K : PySem.W.Frag) (h : X.K = K := by rfl) : CallR X (.builtin "isinstance") (rIsa K "str" Kd.isStr) := h ▸ isa_str
theorem k_isTuple (K : PySem.W.Frag) (h : X.K = K := by rfl) : CallR X (.builtin "isinstance") (rIsa K "tuple" Kd.isTuple) := h ▸ isa_tuple
theorem k_isList (K : PySem.W.Frag) (h : X.K = K := by rfl) : CallR X (.builtin "isinstance") (rIsa K "list" Kd.isList) := h ▸ isa_list
theorem k_isDict (K : PySem.W.Frag) (h : X.K = K := by rfl) : CallR X (.builtin "isinstance") (rIsa K "dict" Kd.isDict) := h ▸ isa_dict
variable {e o l : Expr} {ta tl tv : TE} {f : Str} {pos pos' : Pos} {tg : Expr}
theorem k_fld (K : PySem.W.Frag) (he : PE X e ta) (hb : attributeBase e f X.env (eval e X.env) = eval e X.env) (h : X.K = K := by rfl) : PE X (.Attribute e f pos) (tFld K ta f) := h ▸ pe_fld he hb
theorem k_sfld (K : PySem.W.Frag) {value : Expr} (ha : PE X o ta) (hv : PE X value tv) (hs : swapsWith value (some (.Attribute o f pos')) pos.line X.env = pure false) (h : X.K = K := by rfl) :
    PS X (.Assign [.Attribute o f pos'] value pos) (sFld K ta tv f) := h ▸ ps_fld ha hv hs
theorem k_wL (K : PySem.W.Frag) (hl : PE X l tl) (h : X.K = K := by rfl) : PI X tg l (iList K tl) := h ▸ pi_list hl
theorem k_wT (K : PySem.W.Frag) (hl : PE X l tl) (h : X.K = K := by rfl) : PI X tg l (iTup K tl) := h ▸ pi_tup hl
theorem k_gtup (K : PySem.W.Frag) {es : List Expr} {k : Nat} {t : TGs} {n : Nat} (hp : PGs X es t) (hc : X.calm = true := by rfl)
    (hn : (assignEach es X.env).length = n := by rfl) (hst : (assignEach es X.env).findIdx? (·.1) = none := by rfl) (h : X.K = K := by rfl) : PG X (.Tuple es k pos) (gTup K n t) := h ▸ pg_tup hc hp hn hst
theorem k_wEnum (K : PySem.W.Frag) {a : Expr} {te : TA} {p tpos : Pos} {elts : List Expr} {kk : Nat} (hm : X.mg "enumerate" = none) (ha : PA X [a] te) (hg : Gl X "enumerate" := by rfl)
    (hs : starEach [a] X.env = [(false, eval a X.env)] := by rfl) (h : X.K = K := by rfl) : PI X (.Tuple elts kk tpos) (.Call (.Name "enumerate" p) [a] [] pos) (iEnum K te) := h ▸ pi_enum hg hm ha hs
theorem k_wZip (K : PySem.W.Frag) {a b : Expr} {te : TA} {p tpos : Pos} {elts : List Expr} {kk : Nat} (hm : X.mg "zip" = none) (ha : PA X [a, b] te) (hg : Gl X "zip" := by rfl)
    (hs : starEach [a, b] X.env = (false, eval a X.env) :: starEach [b] X.env := by rfl) (hpl : (backTo pos (starEach [b] X.env)).any (·.1) = false := by rfl) (h : X.K = K := by rfl) :
    PI X (.Tuple elts kk tpos) (.Call (.Name "zip" p) [a, b] [] pos) (iZipA K te) := h ▸ pi_zipA hg hm ha hs hpl
theorem k_truth (K : PySem.W.Frag) {a : Expr} (ha : PE X a ta) (he : ∀ whole, isTrue a X.env whole = (do let v ← whole; standAt a.pos; holding [v] (truthy v)) := by intro _; rfl) (h : X.K = K := by rfl) :
    PT X a (fun σ H Q => ta σ H fun x H' => ∃ k, TruV K x H' k ∧ Q k H') := h ▸ pt_truth ha he
variable {es : List Expr} {to : TE} {t : TA} {name : Str} {apos cpos : Pos} {T id : String} {r : V → List V → Hp → VK → Prop}
theorem k_bm (K : PySem.W.Frag) (pa : PlainAttrs T) (slot : Slot T name id) (hty : typeOf (.builtin id) = pure (.type "method_descriptor")) (hm : MtR X id r) (ho : PE X o to) (ha : PA X (e :: es) t)
    (hbase : attributeBase o name X.env (eval o X.env) = eval o X.env := by rfl)
    (hfew : ((backTo cpos (starEach (e :: es) X.env)).all (fun x => !x.1) && (backToKw cpos (keywordEach [] X.env)).all (fun x => x.1.isSome) &&
      decide ((e :: es).length + ([] : List Keyword).length + (if ([] : List Keyword).isEmpty then 0 else 1) < 30)) = true := by rfl)
    (hline : (apos.endLine == cpos.line) = true := by rfl) (hs : starEach (e :: es) X.env = (false, eval e X.env) :: starEach es X.env := by rfl)
    (hpl : (backTo cpos (starEach es X.env)).any (·.1) = false := by rfl) (h : X.K = K := by rfl) :
    PE X (.Call (.Attribute o name apos) (e :: es) [] cpos) (tBM K T r to t) := h ▸ pe_bm pa slot hty hm ho ha hbase hfew hline hs hpl
theorem k_bm0 (K : PySem.W.Frag) (pa : PlainAttrs T) (slot : Slot T name id) (hty : typeOf (.builtin id) = pure (.type "method_descriptor")) (hm : MtR X id r) (ho : PE X o to)
    (hbase : attributeBase o name X.env (eval o X.env) = eval o X.env := by rfl)
    (hline : (apos.endLine == cpos.line) = true := by rfl) (h : X.K = K := by rfl) :
    PE X (.Call (.Attribute o name apos) [] [] cpos) (tBM0 K T r to) := h ▸ pe_bm0 pa slot hty hm ho hbase hline
end
theorem tyL {K : PySem.W.Frag} {H : Hp} {p : Addr} {xs : List V} (h : SqL K H p xs) : tyV K "list" (.ref p) H := .inl ⟨rfl, _, h⟩
end Ov

set_option maxHeartbeats 4000000
namespace Ov
open PySem PySem.Spec PyProof.Rows L2 RZ

/-! ### data of small depth -/
mutual
def plainD : Nat → PyData → Bool
  | _, .none => true
  | _, .bool _ => true
  | _, .int _ => true
  | _, .str x => PyData.strOk x
  | 0, .list _ => false
  | 0, .tuple _ => false
  | n + 1, .list xs => plainA n xs
  | n + 1, .tuple xs => plainA n xs
  | _, .dict _ => false
def plainA : Nat → List PyData → Bool
  | _, [] => true
  | n, x :: xs => plainD n x && plainA n xs
end
mutual
theorem plain_lay : ∀ (d : PyData) (n : Nat), plainD n d = true → d.canLay0 = true ∧ d.depth ≤ n
  | .none, n, _ => ⟨rfl, Nat.zero_le n⟩
  | .bool _, n, _ => ⟨rfl, Nat.zero_le n⟩
  | .int _, n, _ => ⟨rfl, Nat.zero_le n⟩
  | .str x, n, h => ⟨by cases n <;> simpa [plainD, PyData.canLay0] using h, Nat.zero_le n⟩
  | .list xs, 0, h => by simp [plainD] at h
  | .tuple xs, 0, h => by simp [plainD] at h
  | .list xs, n + 1, h => by
    have := plain_layA xs n (by simpa [plainD] using h)
    exact ⟨by simpa [PyData.canLay0] using this.1, by simp only [PyData.depth]; omega⟩
  | .tuple xs, n + 1, h => by
    have := plain_layA xs n (by simpa [plainD] using h)
    exact ⟨by simpa [PyData.canLay0] using this.1, by simp only [PyData.depth]; omega⟩
  | .dict _, n, h => by cases n <;> simp [plainD] at h
theorem plain_layA : ∀ (ds : List PyData) (n : Nat), plainA n ds = true → PyData.canLayAll0 ds = true ∧ PyData.depthAll ds ≤ n
  | [], n, _ => ⟨rfl, Nat.zero_le n⟩
  | d :: ds, n, h => by
    simp only [plainA, Bool.and_eq_true] at h
    have h1 := plain_lay d n h.1
    have h2 := plain_layA ds n h.2
    exact ⟨by simp [PyData.canLayAll0, h1.1, h2.1], by simp only [PyData.depthAll]; omega⟩
end
theorem shaped_of {d : PyData} {n : Nat} (h : plainD n d = true) (hn : n ≤ 64) : SeqAt.shaped d = true := by
  have := plain_lay d n h
  simp only [SeqAt.shaped, Bool.and_eq_true, decide_eq_true_eq]
  exact ⟨this.1, by omega⟩
theorem plainA_map {α : Type} {f : α → PyData} {n : Nat} : ∀ {l : List α}, (∀ x ∈ l, plainD n (f x) = true) → plainA n (l.map f) = true
  | [], _ => by simp [plainA]
  | x :: l, h => by
    simp only [List.map_cons, plainA, Bool.and_eq_true]
    exact ⟨h x (List.mem_cons_self ..), plainA_map fun y hy => h y (List.mem_cons_of_mem _ hy)⟩
theorem plain_int {n : Nat} {i : Int} : plainD n (.int i) = true := by cases n <;> simp [plainD]
theorem plain_bool {n : Nat} {b : Bool} : plainD n (.bool b) = true := by cases n <;> simp [plainD]
theorem plain_none {n : Nat} : plainD n .none = true := by cases n <;> simp [plainD]
theorem plain_ints {α : Type} {f : α → Int} {n : Nat} {l : List α} : plainA n (l.map fun x => PyData.int (f x)) = true := plainA_map fun _ _ => plain_int

/-! ### which values read as which data -/
mutual
theorem Dp.same {K : PySem.W.Frag} {H H' : Hp} (s : Same H H') : ∀ (d : PyData) {v : V}, Dp K H v d → Dp K H' v d
  | .none, _, h => by cases h; exact .non
  | .bool b, _, h => by cases h; exact .bl b
  | .int i, _, h => by cases h; exact .int i
  | .str x, _, h => by cases h; exact .str x
  | .list ds, _, h => by cases h with | lst h1 h2 => exact .lst (s.seq h1) (DpAll.same s ds h2)
  | .tuple ds, _, h => by cases h with | tup h1 h2 => exact .tup (Same.seqT s h1) (DpAll.same s ds h2)
  | .dict _, _, h => by cases h
theorem DpAll.same {K : PySem.W.Frag} {H H' : Hp} (s : Same H H') : ∀ (ds : List PyData) {vs : List V}, DpAll K H vs ds → DpAll K H' vs ds
  | [], _, h => by cases h; exact .nil
  | d :: ds, _, h => by cases h with | cons h1 h2 => exact .cons (Dp.same s d h1) (DpAll.same s ds h2)
end
theorem dpAll_map {K : PySem.W.Frag} {H : Hp} {α : Type} {f : α → V} {g : α → PyData} : ∀ {l : List α}, (∀ x ∈ l, Dp K H (f x) (g x)) → DpAll K H (l.map f) (l.map g)
  | [], _ => .nil
  | x :: l, h => .cons (h x (List.mem_cons_self ..)) (dpAll_map fun y hy => h y (List.mem_cons_of_mem _ hy))
theorem dpAll_nV {K : PySem.W.Frag} {H : Hp} {l : List Nat} : DpAll K H (l.map nV) (l.map fun n : Nat => PyData.int (n : Int)) := dpAll_map fun n _ => .int (n : Int)
theorem dpAll_int {K : PySem.W.Frag} {H : Hp} {l : List Int} : DpAll K H (l.map V.int) (l.map PyData.int) := dpAll_map fun n _ => .int n
theorem eqvAll_nil {ds : List PyData} : PyData.eqvAll ds [] = ds.isEmpty := by cases ds <;> rfl
theorem eq_nilL {K : PySem.W.Frag} {H : Hp} {a b : Addr} {l : List Nat} {Q : VK} (h : SqL K H a (l.map nV)) (h0 : SqL K H b []) (q : Q (.bl l.isEmpty) H) : rEqD K (.ref a) (.ref b) H Q := by
  refine ⟨_, _, .lst h dpAll_nV, .lst h0 .nil, shaped_of (n := 1) (by simp only [plainD]; exact plain_ints) (by decide), shaped_of (n := 1) (by simp [plainD, plainA]) (by decide), ?_⟩
  simp only [PyData.eqv, eqvAll_nil]
  rwa [show (l.map fun n : Nat => PyData.int (n : Int)).isEmpty = l.isEmpty by cases l <;> rfl]
theorem ne_nilT {K : PySem.W.Frag} {H : Hp} {a b : Addr} {l : List Nat} {Q : VK} (h : SqT K H a (l.map nV)) (h0 : SqT K H b []) (q : Q (.bl (!l.isEmpty)) H) : rNeD K (.ref a) (.ref b) H Q := by
  refine ⟨_, _, .tup h dpAll_nV, .tup h0 .nil, shaped_of (n := 1) (by simp only [plainD]; exact plain_ints) (by decide), shaped_of (n := 1) (by simp [plainD, plainA]) (by decide), ?_⟩
  simp only [PyData.eqv, eqvAll_nil]
  rwa [show (l.map fun n : Nat => PyData.int (n : Int)).isEmpty = l.isEmpty by cases l <;> rfl]
theorem iteE {b c : Bool} {A B : Prop} (h : b = c) (g : if c = true then A else B) : if b = true then A else B := h ▸ g
theorem filter_oV {g : Nat → Option Nat} : ∀ l : List Nat, (l.filter fun j => (g j).isSome).map (fun j => oV (g j)) = (l.filterMap g).map nV
  | [] => rfl
  | j :: l => by
    rw [List.filter_cons, List.filterMap_cons]
    cases e : g j with
    | none => simpa using filter_oV l
    | some n =>
      have ih := filter_oV (g := g) l
      simp only [Option.isSome_some, if_true, List.map_cons, ih, e]
      rfl
theorem nV_inj {a b : Nat} (h : nV a = nV b) : a = b := by
  have : (a : Int) = (b : Int) := V.int.inj h
  omega
theorem inV_one (a b : Nat) : inV (nV a) [nV b] = decide (a = b) := by
  simp only [inV, List.any_cons, List.any_nil, Bool.or_false]
  show ((b : Int) == (a : Int)) = _
  by_cases h : a = b
  · subst h; simp
  · rw [decide_eq_false h]
    exact beq_eq_false_iff_ne.mpr (by omega)

/-! ### SumTable: what its other defs promise -/
def spAdd (C : Addr) : Sp := fun vs H Q _ => ∃ (p l a : Addr) (L m : Nat) (ls : List Nat) (lv av : List (Option Nat)), vs = [.ref p, .int (L : Int)] ∧
  TabAt C H p l a m lv av ∧ 0 < m ∧ m ≤ 1000 ∧ 0 < L ∧ L ≤ 1000 ∧ TabOk ls m lv av ∧
  ∀ lv' av' H', TabOk (ls ++ [L]) m lv' av' → TabAt C H' p l a m lv' av' → Same2 l a H H' → Q .non H'
def spTab (K : PySem.W.Frag) (C : Addr) : Sp := fun vs H Q _ => ∃ (p dx t : Addr) (ls : List Nat), vs = [.ref p, .ref t] ∧ H p = some (.ins C dx []) ∧ SqT K H t (ls.map nV) ∧ LensOk ls ∧
  ∀ l a lv av H', H l = none → H a = none → SameB p H H' → TabAt C H' p l a (ls.headD 0) lv av → TabOk ls (ls.headD 0) lv av → Q .non H'
def spHas (C : Addr) : Sp := fun vs H Q _ => ∃ (p l a : Addr) (ls : List Nat) (lv av : List (Option Nat)) (t : Int), vs = [.ref p, .int t] ∧
  TabAt C H p l a (ls.headD 0) lv av ∧ TabOk ls (ls.headD 0) lv av ∧ (∀ x ∈ ls, 1 ≤ x) ∧ ∀ b : Bool, (b = true ↔ 0 ≤ t ∧ Sums ls t.toNat) → Q (.bl b) H
def spIsSum (K : PySem.W.Frag) : Sp := fun vs H Q _ => ∃ (t : Addr) (ls : List Nat) (n : Int), vs = [.ref t, .int n] ∧ SqT K H t (ls.map nV) ∧ LensOk ls ∧
  ∀ (b : Bool) H', (b = true ↔ 0 ≤ n ∧ Sums ls n.toNat) → Same H H' → Q (.bl b) H'
theorem Same2.refl (l a : Addr) (H : Hp) : Same2 l a H H := fun _ _ _ _ h => h
theorem Same2.trans {l a : Addr} {H H1 H2 : Hp} (x : Same2 l a H H1) (y : Same2 l a H1 H2) : Same2 l a H H2 := fun b o h1 h2 h => y b o h1 h2 (x b o h1 h2 h)
theorem same_made {H H' : Hp} {x dx C : Addr} (nx : H x = none) (nd : H dx = none) (s : SameB x (upd (upd H dx (.own x)) x (.ins C dx [])) H') : Same H H' := fun b o e =>
  s b o (ne_of_none e nx) (by rw [upd_ne (ne_of_none e nx), upd_ne (ne_of_none e nd)]; exact e)
theorem sums_nil {t : Nat} (h : Sums [] t) : t = 0 := by
  cases h with
  | zero => rfl
  | add _ h => cases h
theorem walk_upto {n : Nat} : Walk (Itr 0 n) n (fun _ => True) (YFn fun i => nV i) := by
  refine walk_range.mono (fun _ h => h) ?_
  rintro i H x H' _ _ ⟨h1, h2⟩
  refine ⟨h1, h2.trans ?_⟩
  show V.int (0 + (i : Int)) = V.int (i : Int)
  rw [Int.zero_add]
theorem put_get {f : Str} {v : V} {fs : List (Str × V)} : (putF f v fs).lookup f = some v := by rw [lookup_putF, if_pos rfl]
theorem put_ne {f g : Str} {v : V} {fs : List (Str × V)} (h : ¬ g = f) : (putF f v fs).lookup g = fs.lookup g := by rw [lookup_putF, if_neg h]
theorem put_few {f : Str} {v : V} {fs : List (Str × V)} {n : Nat} (h : fs.length ≤ n) : (putF f v fs).length ≤ n + 1 := Nat.le_trans (length_putF f v fs) (by omega)
theorem rep_one {x : V} {k : Nat} : (List.replicate k [x]).flatten = List.replicate k x := by
  induction k with
  | zero => rfl
  | succ k ih => rw [List.replicate_succ, List.flatten_cons, ih, List.replicate_succ]; rfl
theorem tab_fs {m : Nat} {l a : Addr} : TabFs m l a (putF "added" (.ref a) (putF "least" (.ref l) (putF "modulus" (.int (m : Int)) []))) := by
  refine ⟨?_, ?_, ?_, ?_, ?_, ?_⟩
  · rw [put_ne (by decide +kernel), put_ne (by decide +kernel), put_get]
  · rw [put_ne (by decide +kernel), put_get]
  · rw [put_get]
  · rw [put_ne (by decide +kernel), put_ne (by decide +kernel), put_ne (by decide +kernel)]; rfl
  · rw [put_ne (by decide +kernel), put_ne (by decide +kernel), put_ne (by decide +kernel)]; rfl
  · rw [put_ne (by decide +kernel), put_ne (by decide +kernel), put_ne (by decide +kernel)]; rfl

/-! ### the helpers of the laws -/
def SeqV (K : PySem.W.Frag) (H : Hp) (q : Addr) (xs : List V) : Prop := SqL K H q xs ∨ SqT K H q xs
theorem SameB.seqL {K : PySem.W.Frag} {H H' : Hp} {a b : Addr} {xs : List V} (e : SameB b H H') (n : a ≠ b) (h : SqL K H a xs) : SqL K H' a xs := by
  rcases h with (h | ⟨o, h⟩) | h
  · exact .inl (.inl (e _ _ n h))
  · exact .inl (.inr ⟨o, e _ _ n h⟩)
  · exact .inr h
theorem BoxAt.seqT {K : PySem.W.Frag} {H H' : Hp} {a b : Addr} {N : Nat} {xs : List V} (x : BoxAt H b N) (e : SameB b H H') (h : SqT K H a xs) : SqT K H' a xs := by
  obtain ⟨o, s, n, hb, _⟩ := x.ex
  rcases h with (h | ⟨q, h⟩) | h
  · exact .inl (.inl (e _ _ (fun z => by rw [z, hb] at h; cases h) h))
  · exact .inl (.inr ⟨q, e _ _ (fun z => by rw [z, hb] at h; cases h) h⟩)
  · exact .inr h
def rIxA (K : PySem.W.Frag) : R2 := fun x y H Q => ∃ p xs i v, x = .ref p ∧ y = .int i ∧ SeqV K H p xs ∧ atI xs i = some v ∧ Q v H
theorem k_ixA {X : Cx} (K : PySem.W.Frag) (h : X.K = K := by rfl) : IxR X (rIxA K) := by
  subst h
  intro value slice pins s σ H x y v u Q I rx ry hq hs
  obtain ⟨p, xs, i, w, e1, e2, hp, ha, q⟩ := hq
  rcases hp with hp | hp
  · exact ix_list value slice pins s σ H x y v u Q I rx ry ⟨p, xs, i, w, e1, e2, hp, ha, q⟩ hs
  · exact ix_tup value slice pins s σ H x y v u Q I rx ry ⟨p, xs, i, w, e1, e2, hp, ha, q⟩ hs
abbrev p60 : Int := (10 : Int) ^ Int.toNat 60
theorem p60_lt : p60.natAbs < 2 ^ 200 := by decide +kernel
theorem w60 : CMulW p60 p60 := wide_mul p60_lt p60_lt (by decide) (by decide) (by decide)
theorem w120 : CMulW (p60 * p60) p60 := wide_mul (wide_lt p60_lt p60_lt) p60_lt (by decide) (by decide) (by decide)
theorem w180 : CMulW (p60 * p60 * p60) p60 := wide_mul (wide_lt (wide_lt p60_lt p60_lt) p60_lt) p60_lt (by decide) (by decide) (by decide)
theorem p240 : p60 * p60 * p60 * p60 = boxTop := by decide +kernel
theorem boxTop_pos : 0 < boxTop := by decide +kernel
theorem bit01 {c : Bool} : 0 ≤ (if c = true then (1 : Int) else 0) ∧ (if c = true then (1 : Int) else 0) ≤ 1 := by cases c <;> decide
theorem BoxAt.ne {H : Hp} {b q : Addr} {N : Nat} (x : BoxAt H b N) (h : H q = none) : q ≠ b := fun e => by
  obtain ⟨o, s, n, hb, _⟩ := x.ex
  rw [e, hb] at h
  cases h
def spOf (K : PySem.W.Frag) : Sp := fun vs H Q _ => ∃ (b q : Addr) (xs : List V) (N : Nat), vs = [.ref b, .ref q] ∧ BoxAt H b N ∧ N ≤ 2 ^ 60 ∧ SeqV K H q xs ∧ q ≠ b ∧ 0 < xs.length ∧ xs.length ≤ 100000 ∧
  ∀ (x : V) (H' : Hp), x ∈ xs → BoxAt H' b (N + 1) → SameB b H H' → Q x H'
/-- keys of a dict that are ints -/
theorem put_keys {kvs : List (Key × V)} {ks : List Int} {n : Int} {v : V} (h : kvs.map (·.1) = ks.map Sum.inl) (nd : ks.Nodup) :
    ∃ ks' : List Int, (putK kvs (Sum.inl n) v).map (·.1) = ks'.map Sum.inl ∧ ks'.Nodup ∧ ks'.length ≤ ks.length + 1 ∧ (∀ x, x ∈ ks' ↔ x = n ∨ x ∈ ks) := by
  by_cases hn : n ∈ ks
  · refine ⟨ks, ?_, nd, Nat.le_succ _, fun x => ⟨Or.inr, fun h => h.elim (fun e => e ▸ hn) id⟩⟩
    have ha : (kvs.any fun kv => decide (kv.1 = Sum.inl n)) = true := by
      have : (Sum.inl n : Key) ∈ kvs.map (·.1) := by rw [h]; exact List.mem_map.mpr ⟨n, hn, rfl⟩
      obtain ⟨p, hp, e⟩ := List.mem_map.mp this
      exact List.any_eq_true.mpr ⟨p, hp, decide_eq_true e⟩
    unfold putK
    rw [if_pos ha, List.map_map, ← h]
    apply List.map_congr_left
    intro p _
    show (if p.1 = Sum.inl n then (p.1, v) else p).1 = p.1
    split <;> rfl
  · have ha : (kvs.any fun kv => decide (kv.1 = Sum.inl n)) = false := by
      rw [Bool.eq_false_iff]
      intro hx
      obtain ⟨p, hp, e⟩ := List.any_eq_true.mp hx
      have e := of_decide_eq_true e
      have : (Sum.inl n : Key) ∈ ks.map Sum.inl := by rw [← h, ← e]; exact List.mem_map.mpr ⟨p, hp, rfl⟩
      obtain ⟨z, hz, e2⟩ := List.mem_map.mp this
      cases e2
      exact hn hz
    refine ⟨ks ++ [n], ?_, ?_, by simp, fun x => by simp [or_comm]⟩
    · unfold putK
      rw [if_neg (by rw [ha]; decide), List.map_append, h, List.map_append]
      rfl
    · rw [List.nodup_append]
      refine ⟨nd, by simp, ?_⟩
      intro a hak b hb e
      have := List.mem_singleton.mp hb
      subst this e
      exact hn hak
theorem dput_int {H : Hp} {a : Addr} {kvs : List (Key × V)} {n : Int} {v : V} (e : H a = some (.dK kvs)) (hl : kvs.length < sizeLine) : DPut H a (.int n) v (upd H a (.dK (putK kvs (Sum.inl n) v))) := DPut.k (k := Sum.inl n) e hl
/-- ascending without duplicates -/
theorem asc_of_perm {ys ks : List Int} (h1 : ys.Perm ks) (h2 : ys.Pairwise (· ≤ ·)) (nd : ks.Nodup) : ys.Pairwise (· < ·) := by
  have nd2 : ys.Nodup := h1.nodup_iff.mpr nd
  have h3 : ys.Pairwise (fun a b => a ≤ b ∧ a ≠ b) := List.Pairwise.and h2 nd2
  exact h3.imp fun h => by omega
theorem toNats : ∀ {ys : List Int}, (∀ x ∈ ys, 0 ≤ x) → ys = (ys.map Int.toNat).map fun n : Nat => (n : Int)
  | [], _ => rfl
  | y :: ys, h => by
    have h1 := h y (List.mem_cons_self ..)
    have h2 := toNats fun x hx => h x (List.mem_cons_of_mem _ hx)
    rw [List.map_cons, List.map_cons, ← h2]
    congr 1
    omega
def spDrawn (K : PySem.W.Frag) (top most : Nat) : Sp := fun vs H Q _ => ∃ (b : Addr) (N : Nat), vs = [.ref b] ∧ BoxAt H b N ∧ N ≤ 2 ^ 59 ∧
  ∀ t (ls : List Nat) H', SqT K H' t (ls.map nV) → LensOk ls → ls.length ≤ most → (∀ x ∈ ls, x ≤ top) → BoxAt H' b (N + 20) → SameB b H H' → Q (.ref t) H'
theorem sums_last {ls : List Nat} (hp : ∀ x ∈ ls, 1 ≤ x) {n : Nat} (hn : 0 < n) : Sums ls n ↔ ∃ a ∈ ls, a ≤ n ∧ Sums ls (n - a) := by
  constructor
  · intro h
    cases h with
    | zero => omega
    | @add t a h1 h2 => exact ⟨a, h2, by omega, by rw [Nat.add_sub_cancel]; exact h1⟩
  · rintro ⟨a, h1, h2, h3⟩
    have := Sums.add h3 h1
    rwa [Nat.sub_add_cancel h2] at this
def spAdded (K : PySem.W.Frag) : Sp := fun vs H Q _ => ∃ (t : Addr) (ls : List Nat) (m : Nat), vs = [.ref t, .int (m : Int)] ∧ SqT K H t (ls.map nV) ∧ ls.length ≤ 50 ∧ (∀ x ∈ ls, 1 ≤ x) ∧ m ≤ 1000 ∧
  ∀ p (bs : List Bool) H', H p = none → H' p = some (.lst (bs.map V.bl)) → bs.length = m + 1 → (∀ i b, bs[i]? = some b → (b = true ↔ Sums ls i)) → Same H H' → Q (.ref p) H'
/-! ### repr of small things -/
theorem dep_bool {b : Bool} : (PyData.bool b).depth ≤ 60 := by simp [PyData.depth]
theorem len_bool {b : Bool} : (PyData.bool b).shown.length ≤ sizeLine := by cases b <;> decide +kernel
theorem dep_int {i : Int} : (PyData.int i).depth ≤ 60 := by simp [PyData.depth]
theorem dep_none : (PyData.none).depth ≤ 60 := by simp [PyData.depth]
theorem len_none : (PyData.none).shown.length ≤ sizeLine := by decide +kernel
end Ov

set_option maxHeartbeats 4000000
namespace Ov
open PySem PySem.Spec PyProof.Rows L2 RZ

/-! ### how long a repr is -/
mutual
def wt : PyData → Nat
  | .none => 1
  | .bool _ => 1
  | .int _ => 1
  | .str x => 1 + x.length
  | .list xs => 1 + wtA xs
  | .tuple xs => 1 + wtA xs
  | .dict _ => 0
def wtA : List PyData → Nat
  | [] => 0
  | x :: xs => wt x + wtA xs
end
theorem listText_le : ∀ ts : List Str, (listText ts).length ≤ 4 + piled ts
  | [] => by decide
  | t :: r => by
    have h := textFrom_length_pos r 1 (("[" : Str) ++ (if (0 : Nat) > 0 then ", " else "" : String) ++ t) (Nat.succ_pos 0)
    have e : ((("[" : Str) ++ (if (0 : Nat) > 0 then ", " else "" : String) ++ t)).length = 1 + t.length := by
      rw [strLen_append, strLen_append]
      rfl
    have h1 : (listText (t :: r)).length = (textFrom 1 (("[" : Str) ++ (if (0 : Nat) > 0 then ", " else "" : String) ++ t) r).length + 1 := by
      show (textFrom 0 "[" (t :: r) ++ "]").length = _
      rw [strLen_append]
      rfl
    rw [h1, h, e, piled_cons]
    omega
theorem tupleText_le (ts : List Str) : (tupleText ts).length ≤ 4 + piled ts := by
  have e : (tupleText ts).length = 1 + (Str.join ", " ts).length + (if ts.length == 1 then 2 else 1) := by
    unfold tupleText
    rw [strLen_append, strLen_append]
    congr 1
    split <;> rfl
  rw [e]
  cases ts with
  | nil => decide
  | cons t r =>
    have := join_length_add (t :: r) (List.cons_ne_nil _ _)
    split <;> omega
mutual
theorem shown_le : ∀ (d : PyData) (n : Nat), plainD n d = true → d.showable = true → d.shown.length + 2 ≤ 2002 * wt d
  | .none, n, _, _ => by decide
  | .bool b, n, _, _ => by cases b <;> decide
  | .int i, n, _, h => by
    have := int_text_len_1921 (i := i) (of_decide_eq_true h)
    show (Str.ofString (toString i)).length + 2 ≤ 2002 * 1
    omega
  | .str x, n, h, _ => by
    have hx : ∀ c ∈ x.cps.toList, c < 16 ^ 8 := by
      have : PyData.strOk x = true := by cases n <;> simpa [plainD] using h
      intro c hc
      have := Array.all_eq_true_iff_forall_mem.mp this c (by simpa using hc)
      have := of_decide_eq_true this
      omega
    have := PySem.StrLaws.reprText_len x hx
    show (reprText x).length + 2 ≤ 2002 * (1 + x.length)
    omega
  | .list xs, 0, h, _ => by simp [plainD] at h
  | .tuple xs, 0, h, _ => by simp [plainD] at h
  | .list xs, n + 1, h, hs => by
    have := shownA_le xs n (by simpa [plainD] using h) (by simpa [PyData.showable] using hs)
    have h2 := listText_le (PyData.shownAll xs)
    show (listText (PyData.shownAll xs)).length + 2 ≤ 2002 * (1 + wtA xs)
    omega
  | .tuple xs, n + 1, h, hs => by
    have := shownA_le xs n (by simpa [plainD] using h) (by simpa [PyData.showable] using hs)
    have h2 := tupleText_le (PyData.shownAll xs)
    show (tupleText (PyData.shownAll xs)).length + 2 ≤ 2002 * (1 + wtA xs)
    omega
  | .dict _, n, h, _ => by cases n <;> simp [plainD] at h
theorem shownA_le : ∀ (ds : List PyData) (n : Nat), plainA n ds = true → PyData.showableAll ds = true → piled (PyData.shownAll ds) ≤ 2002 * wtA ds
  | [], _, _, _ => by simp [PyData.shownAll, piled, wtA]
  | d :: ds, n, h, hs => by
    simp only [plainA, Bool.and_eq_true] at h
    simp only [PyData.showableAll, Bool.and_eq_true] at hs
    have h1 := shown_le d n h.1 hs.1
    have h2 := shownA_le ds n h.2 hs.2
    rw [PyData.shownAll, piled_cons, wtA, Nat.mul_add]
    omega
end
/-- a repr fits -/
theorem shows {d : PyData} {n : Nat} (h : plainD n d = true) (hn : n ≤ 60) (hs : d.showable = true) (hw : wt d ≤ 8000) : d.depth ≤ 60 ∧ d.shown.length ≤ sizeLine := by
  have h1 := plain_lay d n h
  have h2 := shown_le d n h hs
  refine ⟨by omega, Nat.le_trans (m := 2002 * 8000) (by omega) (by decide)⟩
theorem wtA_map {α : Type} {f : α → PyData} {k : Nat} : ∀ {l : List α}, (∀ x ∈ l, wt (f x) ≤ k) → wtA (l.map f) ≤ k * l.length
  | [], _ => by simp [wtA]
  | x :: l, h => by
    have h1 := h x (List.mem_cons_self ..)
    have h2 := wtA_map (l := l) fun y hy => h y (List.mem_cons_of_mem _ hy)
    simp only [List.map_cons, wtA, List.length_cons, Nat.mul_add]
    omega
theorem showA_map {α : Type} {f : α → PyData} : ∀ {l : List α}, (∀ x ∈ l, (f x).showable = true) → PyData.showableAll (l.map f) = true
  | [], _ => by simp [PyData.showableAll]
  | x :: l, h => by
    simp only [List.map_cons, PyData.showableAll, Bool.and_eq_true]
    exact ⟨h x (List.mem_cons_self ..), showA_map fun y hy => h y (List.mem_cons_of_mem _ hy)⟩
theorem show_int {i : Int} (h : i.natAbs < 2 ^ 1000) : (PyData.int i).showable = true := by
  simp only [PyData.showable, decide_eq_true_eq]
  exact Nat.lt_of_lt_of_le (PySem.Flt.log2_lt_of (k := 1000) (by decide) h) (by decide)
/-- a number that may lack, as data -/
def oD : Option Nat → PyData
  | none => .none
  | some n => .int (n : Int)
theorem dp_oV {K : PySem.W.Frag} {H : Hp} {o : Option Nat} : Dp K H (oV o) (oD o) := by
  cases o with
  | none => exact .non
  | some n => exact .int _
theorem dpAll_oV {K : PySem.W.Frag} {H : Hp} {l : List (Option Nat)} : DpAll K H (l.map oV) (l.map oD) := dpAll_map fun _ _ => dp_oV
theorem plain_oD {n : Nat} {o : Option Nat} : plainD n (oD o) = true := by
  cases o with
  | none => exact plain_none
  | some _ => exact plain_int
theorem show_oD {o : Option Nat} (h : ∀ n, o = some n → n < 2 ^ 1000) : (oD o).showable = true := by
  cases o with
  | none => rfl
  | some n => exact show_int (by have := h n rfl; omega)
theorem wt_oD {o : Option Nat} : wt (oD o) ≤ 1 := by cases o <;> simp [oD, wt]
/-! ### common_divisor, least_sums -/
def spGcdL (K : PySem.W.Frag) : Sp := fun vs H Q _ => ∃ (t : Addr) (ls : List Nat), vs = [.ref t] ∧ SqT K H t (ls.map nV) ∧ LensOk ls ∧ ∀ H', Same H H' → Q (.int (gcdL ls : Int)) H'
def spLeast (K : PySem.W.Frag) : Sp := fun vs H Q _ => ∃ (t : Addr) (ls : List Nat), vs = [.ref t] ∧ SqT K H t (ls.map nV) ∧ LensOk ls ∧
  ∀ q lv av H', Same H H' → SqT K H' q (lv.map oV) → TabOk ls (ls.headD 0) lv av → Q (.ref q) H'
def spLeast2 (K : PySem.W.Frag) : Sp := fun vs H Q _ => ∃ (t : Addr) (ls : List Nat), vs = [.ref t] ∧ SqT K H t (ls.map nV) ∧ LensOk ls ∧ (∀ x ∈ ls, x ≤ 24) ∧
  ∀ q (lv : List (Option Nat)) H', Same H H' → SqT K H' q (lv.map oV) → lv.length = ls.headD 0 → (∀ r, r < ls.headD 0 → ∃ e, lv[r]? = some e ∧ EntOk (Sums ls) (ls.headD 0) r e) → Q (.ref q) H'
def spDiv2 (K : PySem.W.Frag) : Sp := fun vs H Q _ => ∃ (t : Addr) (ls : List Nat), vs = [.ref t] ∧ SqT K H t (ls.map nV) ∧ LensOk ls ∧ (∀ x ∈ ls, x ≤ 24) ∧ ∀ H', Same H H' → Q (.int (gcdL ls : Int)) H'
theorem eq_nilT {K : PySem.W.Frag} {H : Hp} {a b : Addr} {l : List Nat} {Q : VK} (h : SqT K H a (l.map nV)) (h0 : SqT K H b []) (q : Q (.bl l.isEmpty) H) : rEqD K (.ref a) (.ref b) H Q := by
  refine ⟨_, _, .tup h dpAll_nV, .tup h0 .nil, shaped_of (n := 1) (by simp only [plainD]; exact plain_ints) (by decide), shaped_of (n := 1) (by simp [plainD, plainA]) (by decide), ?_⟩
  simp only [PyData.eqv, eqvAll_nil]
  rwa [show (l.map fun n : Nat => PyData.int (n : Int)).isEmpty = l.isEmpty by cases l <;> rfl]
theorem filter_last {c : Nat → Bool} {g : Nat} (h1 : ∀ i, g < i + 1 → c i = false) (h2 : c (g - 1) = true) (hg : 0 < g) : ∀ n, g ≤ n → (List.range n).filter c = (List.range (g - 1)).filter c ++ [g - 1]
  | 0, h => by omega
  | n + 1, h => by
    rw [List.range_succ, List.filter_append]
    by_cases e : g = n + 1
    · subst e
      rw [Nat.add_sub_cancel] at h2 ⊢
      simp [h2]
    · have ih := filter_last h1 h2 hg n (by omega)
      have h3 : c n = false := h1 n (by omega)
      rw [ih]
      simp [h3]
end Ov

set_option maxHeartbeats 2000000
namespace Ov
open PySem PySem.Spec PyProof.Rows L2 RZ
def top (i : Nat) : Stmt := PySem.Challenge.pw_overlapcode_k07_least_sums_by_plain_addi.main.body.getD i (.Pass ⟨0, 0, 0, 0⟩)
end Ov

set_option maxHeartbeats 2000000
namespace Ov
open PySem PySem.Spec PyProof.Rows L2 RZ
local macro_rules | `(tactic| walk_at "hp") => `(tactic| first
  | assumption
  | exact upd_same
  | (apply upd_keep; (focus walk_at "hp"); assumption)
  | (apply upd_keepN; (focus walk_at "hp"); assumption)
  | (apply same_get; (focus assumption); walk_at "hp"))
local macro_rules | `(tactic| walk_at "sq") => `(tactic| first
  | assumption
  | (apply sqL_of; walk_at "hp")
  | (apply sqT_of; walk_at "hp")
  | (apply Same.seq; (focus assumption); walk_at "sq")
  | (apply Same.seqT; (focus assumption); walk_at "sq")
  | (apply Same.seq; (focus (apply same_new; assumption)); walk_at "sq")
  | (apply Same.seqT; (focus (apply same_new; assumption)); walk_at "sq"))
local macro_rules | `(tactic| walk_at "kd") => `(tactic| first
  | assumption
  | exact HasKd.int _
  | exact HasKd.bl _
  | exact HasKd.str _
  | exact HasKd.non
  | (apply HasKd.tup; walk_at "sq")
  | (apply HasKd.lst; walk_at "sq")
  | (apply HasKd.dic; walk_at "hp")
  | (apply HasKd.same; (focus assumption); walk_at "kd"))
local macro_rules | `(tactic| walk_at "sc") => `(tactic| first
  | assumption
  | walk_at "sq"
  | walk_at "kd"
  | (apply at_of; (focus assumption); assumption)
  | (apply atI_nat; assumption)
  | (apply ix_of; (focus assumption); (first | assumption | omega))
  | (apply tyL; walk_at "sq")
  | (apply Rd.of; walk_at "hp")
  | (apply dput_int; (focus walk_at "hp"); (apply lt_line; omega))
  | walk_at "hp"
  | (apply Exists.intro; walk_at "sq")
  | (refine Or.inl ?_; walk_at "sq")
  | (refine Or.inr ?_; walk_at "sq")
  | exact Dp.bl _
  | exact Dp.non
  | exact Dp.int _
  | exact Dp.str _
  | exact dep_bool
  | exact len_bool
  | decide
  | exact ⟨by decide, by decide, by decide⟩
  | (apply lt_line; (first | omega | (simp; done) | (simp; omega)))
  | (apply le_line; (first | omega | (simp; done) | (simp; omega)))
  | omega
  | (refine Or.inl ⟨?_, ?_⟩ <;> omega)
  | (refine Or.inr ⟨?_, ?_⟩ <;> omega)
  | (refine div_ok ?_ ?_ <;> omega))
local macro_rules | `(tactic| walk_at "rd1") => `(tactic| first
  | apply exi
  | (with_reducible apply iteBT; (focus (first | rfl | assumption)))
  | (with_reducible apply iteBF; (focus (first | rfl | assumption)))
  | (apply And.intro; (focus (first | rfl | (walk_at "sc"; done)))))
local macro_rules | `(tactic| walk_at "rd") => `(tactic| repeat walk_at "rd1")
local macro_rules | `(tactic| walk_at "if") => `(tactic| first | refine iteD ?_ ?_ | refine iteN ?_ ?_ | refine ite2 ?_ ?_)
local macro_rules | `(tactic| walk_at "sb") => `(tactic| first
  | assumption
  | exact SameB.refl _ _
  | (refine Same.toB ?_; assumption)
  | (refine SameB.new ?_ (by assumption); walk_at "sb")
  | (refine SameB.updp ?_; walk_at "sb"))
abbrev s_is_integer : Stmt := top 5
abbrev n_is_integer : List Str := ["value", "low", "high"]
theorem sc_is_integer : FnScope n_is_integer ["value", "low", "high"] (defScope s_is_integer) := ⟨rfl, rfl, rfl, by decide +kernel, rfl, by decide +kernel, by decide +kernel⟩
section
variable {P : Program} {w : World} {K : PySem.W.Frag} {mg : Str → Option Value} {base : Heap}
theorem ok_is_integer {f : Addr} {fd : FuncData} (F : At K mg "is_integer" s_is_integer f fd) (T : Blt mg)  : Cal P w K mg base CX0 1 "is_integer" ["value", "low", "high"] (spIsInteger K) := by
  refine cal_mk F (F.fn.binds fun _ _ _ _ _ _ us hl => match us, hl with | [_, _, _], _ => rfl) sc_is_integer (fun vs H Q E h => ?_) ?_
  · first
    | (obtain ⟨_, rfl, _⟩ := h; rfl)
    | (obtain ⟨_, _, rfl, _⟩ := h; rfl)
    | (obtain ⟨_, _, _, rfl, _⟩ := h; rfl)
    | (obtain ⟨_, _, _, _, rfl, _⟩ := h; rfl)
    | (obtain ⟨_, _, _, _, _, rfl, _⟩ := h; rfl)
    | (obtain ⟨_, _, _, _, _, _, rfl, _⟩ := h; rfl)
    | (obtain ⟨_, _, _, _, _, _, _, rfl, _⟩ := h; rfl)
    | (obtain ⟨_, _, _, _, _, _, _, _, rfl, _⟩ := h; rfl)
    | (obtain ⟨_, _, _, _, _, _, _, _, _, rfl, _⟩ := h; rfl)
    | (obtain ⟨_, _, _, _, _, _, _, _, _, _, rfl, _⟩ := h; rfl)
    | (obtain ⟨_, _, _, _, _, _, _, _, _, _, _, rfl, _⟩ := h; rfl)
    | (obtain ⟨_, _, _, _, _, _, _, _, _, _, _, _, rfl, _⟩ := h; rfl)
  intro cdv A outer s H vs Q E hr h
  obtain ⟨v, lo, hi, k, rfl, hk, q⟩ := h
  refine ⟨_, (pss_one (ps_ret (pe_and (pe_callB (k_isInt K) (by rfl) T.b_isinstance (by decide +kernel) (pa_cons (pv 0) (pa_cons (pe_bltn (v := .ty "int") (by rfl) T.b_int (by decide +kernel) rfl) pa_nil))) (pe_and (pe_not (pe_callB (k_isBool K) (by rfl) T.b_isinstance (by decide +kernel) (pa_cons (pv 0) (pa_cons (pe_bltn (v := .ty "bool") (by rfl) T.b_bool (by decide +kernel) rfl) pa_nil)))) (pe_one (pe_chain op_le op_le (pv 1) (pv 0) (pv 2))))))), ?_⟩
  cases hk with
  | int i =>
    walk_at "rd"
    walk_at "if"
    · intro h1
      walk_at "rd"
      have e : isIntV (.int i) lo hi = decide (i ≤ hi) := by simp [isIntV, h1]
      rw [e] at q
      exact q
    · intro h1
      have e : isIntV (.int i) lo hi = false := by simp [isIntV, h1]
      rw [e] at q
      exact q
  | _ =>
    walk_at "rd"
    exact q
end
abbrev s_is_ascending : Stmt := top 6
abbrev n_is_ascending : List Str := ["items", "item", "following"]
theorem sc_is_ascending : FnScope n_is_ascending ["items"] (defScope s_is_ascending) := ⟨rfl, rfl, rfl, by decide +kernel, rfl, by decide +kernel, by decide +kernel⟩
section
variable {P : Program} {w : World} {K : PySem.W.Frag} {mg : Str → Option Value} {base : Heap}
theorem ok_is_ascending {f : Addr} {fd : FuncData} (F : At K mg "is_ascending" s_is_ascending f fd) (T : Blt mg)  : Cal P w K mg base CX0 1 "is_ascending" ["items"] (spAsc K) := by
  refine cal_mk F (F.fn.binds fun _ _ _ _ _ _ us hl => match us, hl with | [_], _ => rfl) sc_is_ascending (fun vs H Q E h => ?_) ?_
  · first
    | (obtain ⟨_, rfl, _⟩ := h; rfl)
    | (obtain ⟨_, _, rfl, _⟩ := h; rfl)
    | (obtain ⟨_, _, _, rfl, _⟩ := h; rfl)
    | (obtain ⟨_, _, _, _, rfl, _⟩ := h; rfl)
    | (obtain ⟨_, _, _, _, _, rfl, _⟩ := h; rfl)
    | (obtain ⟨_, _, _, _, _, _, rfl, _⟩ := h; rfl)
    | (obtain ⟨_, _, _, _, _, _, _, rfl, _⟩ := h; rfl)
    | (obtain ⟨_, _, _, _, _, _, _, _, rfl, _⟩ := h; rfl)
    | (obtain ⟨_, _, _, _, _, _, _, _, _, rfl, _⟩ := h; rfl)
    | (obtain ⟨_, _, _, _, _, _, _, _, _, _, rfl, _⟩ := h; rfl)
    | (obtain ⟨_, _, _, _, _, _, _, _, _, _, _, rfl, _⟩ := h; rfl)
    | (obtain ⟨_, _, _, _, _, _, _, _, _, _, _, _, rfl, _⟩ := h; rfl)
  intro cdv A outer s H vs Q E hr h
  obtain ⟨a, ns, rfl, ha, hl, k⟩ := h
  refine ⟨_, (pss_one (ps_ret (pe_callB (k_all K) (by rfl) T.b_all (by decide +kernel) (pa_cons (pe_lc (own := [("item", 1), ("following", 2)]) (g := (gTup K 2 (gCons (gName 1) (gCons (gName 2) gNil)))) (tt := tYes) (by rfl) sc_is_ascending.nd (k_wZip K T.b_zip (pa_cons (pv 0) (pa_cons (pe_slice (k_slT K) (pv 0) (po_some pe_int) po_none) pa_nil))) (blkOk_by (own := [("item", 1), ("following", 2)]) (N := n_is_ascending) (sc := defScope s_is_ascending) (by decide +kernel)) (fun _ _ _ _ _ => (k_gtup K (pgs_cons (pg_name (i := 1) sc_is_ascending.nd rfl (Or.inl rfl)) (pgs_cons (pg_name (i := 2) sc_is_ascending.nd rfl (Or.inl rfl)) pgs_nil)))) (fun _ _ _ _ _ => pts_nil) (fun _ _ _ _ _ => (pe_cmpR op_lt (pv 1) (pv 2) (nomark _)))) pa_nil)))), ?_⟩
  walk_at "rd"
  intro p H1 s1 hp
  have ha1 := Same.seqT s1 ha
  refine ⟨a, p, _, _, rfl, Or.inr ⟨ha1, hp, ?_⟩⟩
  intro D hD
  have hc : cutV (ns.map V.int) (some 1) none = (ns.drop 1).map V.int := by
    rw [cutV_from (v := 1) (i := 1) rfl, List.map_drop]
  rw [hc] at hp
  refine lc_map (walk_zipT (xs := ns.map V.int) (ys := (ns.drop 1).map V.int) (n := ns.length - 1) (by simp)) (fun i => .bl (decide (ns.getD i 0 < ns.getD (i + 1) 0))) hD ?_ ?_ ?_ ?_
  · exact le_line (by omega)
  · intro H2 s2
    exact ⟨Same.seqT s2 ha1, Same.seqT s2 hp⟩
  · intro i x H2 H3 R Rn hi s2 y hR
    obtain ⟨T1, x, y, rfl, hT, rfl, e1, e2⟩ := y
    obtain ⟨n1, f1, rfl⟩ := get_map e1
    obtain ⟨n2, f2, rfl⟩ := get_map e2
    have g1 : ns.getD i 0 = n1 := by simp [List.getD, f1]
    have g2 : ns.getD (i + 1) 0 = n2 := by
      rw [List.getElem?_drop, Nat.add_comm] at f2
      simp [List.getD, f2]
    rw [g1, g2] at hR
    walk_at "rd"
    exact hR _ (same_new hT)
  · intro H2 s2 h2
    refine ⟨D, (List.range (ns.length - 1)).map fun i => decide (ns.getD i 0 < ns.getD (i + 1) 0), rfl, ?_, ?_⟩
    · refine sqL_of ?_
      rw [h2, List.map_map]
      rfl
    · have q := k H2 (s1.trans s2)
      rw [asc_range] at q
      exact q
end
end Ov

set_option maxHeartbeats 2000000
namespace Ov
open PySem PySem.Spec PyProof.Rows L2 RZ
local macro_rules | `(tactic| walk_at "hp") => `(tactic| first
  | assumption
  | exact upd_same
  | (apply upd_keep; (focus walk_at "hp"); assumption)
  | (apply upd_keepN; (focus walk_at "hp"); assumption)
  | (apply same_get; (focus assumption); walk_at "hp"))
local macro_rules | `(tactic| walk_at "sq") => `(tactic| first
  | assumption
  | (apply sqL_of; walk_at "hp")
  | (apply sqT_of; walk_at "hp")
  | (apply Same.seq; (focus assumption); walk_at "sq")
  | (apply Same.seqT; (focus assumption); walk_at "sq")
  | (apply Same.seq; (focus (apply same_new; assumption)); walk_at "sq")
  | (apply Same.seqT; (focus (apply same_new; assumption)); walk_at "sq"))
local macro_rules | `(tactic| walk_at "kd") => `(tactic| first
  | assumption
  | exact HasKd.int _
  | exact HasKd.bl _
  | exact HasKd.str _
  | exact HasKd.non
  | (apply HasKd.tup; walk_at "sq")
  | (apply HasKd.lst; walk_at "sq")
  | (apply HasKd.dic; walk_at "hp")
  | (apply HasKd.same; (focus assumption); walk_at "kd"))
local macro_rules | `(tactic| walk_at "sc") => `(tactic| first
  | assumption
  | walk_at "sq"
  | walk_at "kd"
  | (apply at_of; (focus assumption); assumption)
  | (apply atI_nat; assumption)
  | (apply ix_of; (focus assumption); (first | assumption | omega))
  | (apply tyL; walk_at "sq")
  | (apply Rd.of; walk_at "hp")
  | (apply dput_int; (focus walk_at "hp"); (apply lt_line; omega))
  | walk_at "hp"
  | (apply Exists.intro; walk_at "sq")
  | (refine Or.inl ?_; walk_at "sq")
  | (refine Or.inr ?_; walk_at "sq")
  | exact Dp.bl _
  | exact Dp.non
  | exact Dp.int _
  | exact Dp.str _
  | exact dep_bool
  | exact len_bool
  | decide
  | exact ⟨by decide, by decide, by decide⟩
  | (apply lt_line; (first | omega | (simp; done) | (simp; omega)))
  | (apply le_line; (first | omega | (simp; done) | (simp; omega)))
  | omega
  | (refine Or.inl ⟨?_, ?_⟩ <;> omega)
  | (refine Or.inr ⟨?_, ?_⟩ <;> omega)
  | (refine div_ok ?_ ?_ <;> omega))
local macro_rules | `(tactic| walk_at "rd1") => `(tactic| first
  | apply exi
  | (with_reducible apply iteBT; (focus (first | rfl | assumption)))
  | (with_reducible apply iteBF; (focus (first | rfl | assumption)))
  | (apply And.intro; (focus (first | rfl | (walk_at "sc"; done)))))
local macro_rules | `(tactic| walk_at "rd") => `(tactic| repeat walk_at "rd1")
local macro_rules | `(tactic| walk_at "if") => `(tactic| first | refine iteD ?_ ?_ | refine iteN ?_ ?_ | refine ite2 ?_ ?_)
local macro_rules | `(tactic| walk_at "sb") => `(tactic| first
  | assumption
  | exact SameB.refl _ _
  | (refine Same.toB ?_; assumption)
  | (refine SameB.new ?_ (by assumption); walk_at "sb")
  | (refine SameB.updp ?_; walk_at "sb"))
abbrev s_check_lengths : Stmt := top 10
abbrev n_check_lengths : List Str := ["lengths", "length"]
theorem sc_check_lengths : FnScope n_check_lengths ["lengths"] (defScope s_check_lengths) := ⟨rfl, rfl, rfl, by decide +kernel, rfl, by decide +kernel, by decide +kernel⟩
section
variable {P : Program} {w : World} {K : PySem.W.Frag} {mg : Str → Option Value} {base : Heap}
theorem ok_check_lengths {f : Addr} {fd : FuncData} (F : At K mg "check_lengths" s_check_lengths f fd) (T : Blt mg) (c_MOST_LENGTHS : ∃ u, mg "MOST_LENGTHS" = some u ∧ RelV (.int 50) u) (c_LONGEST : ∃ u, mg "LONGEST" = some u ∧ RelV (.int 1000) u)
    (g_is_integer : Cal P w K mg base CX0 1 "is_integer" ["value", "low", "high"] (spIsInteger K)) (g_is_ascending : Cal P w K mg base CX0 1 "is_ascending" ["items"] (spAsc K)) : Cal P w K mg base CX0 2 "check_lengths" ["lengths"] (spCheckLens K) := by
  refine cal_mk F (F.fn.binds fun _ _ _ _ _ _ us hl => match us, hl with | [_], _ => rfl) sc_check_lengths (fun vs H Q E h => ?_) ?_
  · first
    | (obtain ⟨_, rfl, _⟩ := h; rfl)
    | (obtain ⟨_, _, rfl, _⟩ := h; rfl)
    | (obtain ⟨_, _, _, rfl, _⟩ := h; rfl)
    | (obtain ⟨_, _, _, _, rfl, _⟩ := h; rfl)
    | (obtain ⟨_, _, _, _, _, rfl, _⟩ := h; rfl)
    | (obtain ⟨_, _, _, _, _, _, rfl, _⟩ := h; rfl)
    | (obtain ⟨_, _, _, _, _, _, _, rfl, _⟩ := h; rfl)
    | (obtain ⟨_, _, _, _, _, _, _, _, rfl, _⟩ := h; rfl)
    | (obtain ⟨_, _, _, _, _, _, _, _, _, rfl, _⟩ := h; rfl)
    | (obtain ⟨_, _, _, _, _, _, _, _, _, _, rfl, _⟩ := h; rfl)
    | (obtain ⟨_, _, _, _, _, _, _, _, _, _, _, rfl, _⟩ := h; rfl)
    | (obtain ⟨_, _, _, _, _, _, _, _, _, _, _, _, rfl, _⟩ := h; rfl)
  intro cdv A outer s H vs Q E hr h
  obtain ⟨a, ls, rfl, ha, ⟨hl, hm, hs⟩, k⟩ := h
  have hls : ls.map nV = (ls.map fun n : Nat => (n : Int)).map V.int := by rw [List.map_map]; rfl
  refine ⟨_, (pss_cons (ps_if (PW.pt (pw_or (pt_not (pt_val (pe_callB (k_isTuple K) (by rfl) T.b_isinstance (by decide +kernel) (pa_cons (pv 0) (pa_cons (pe_bltn (v := .ty "tuple") (by rfl) T.b_tuple (by decide +kernel) rfl) pa_nil))))) (pw_or1 (pt_cmpR op_gt (pe_callB (k_len K) (by rfl) T.b_len PySem.boot_len (pa_cons (pv 0) pa_nil)) (pgl c_MOST_LENGTHS) (nomark _))))) (pss_one ps_never) pss_nil)
      (pss_one (ps_if (PW.pt (pw_or (pt_not (pt_val (pe_callB (k_all K) (by rfl) T.b_all (by decide +kernel) (pa_cons (pe_lc (own := [("length", 1)]) (g := (gName 1)) (tt := tYes) (by rfl) sc_check_lengths.nd (k_wT K (pv 0)) (blkOk_by (own := [("length", 1)]) (N := n_check_lengths) (sc := defScope s_check_lengths) (by decide +kernel)) (fun _ _ _ _ _ => (pg_name (i := 1) sc_check_lengths.nd rfl (Or.inl rfl))) (fun _ _ _ _ _ => pts_nil) (fun _ _ _ _ _ => (pc g_is_integer hr (pa_cons (pv 1) (pa_cons pe_int (pa_cons (pgl c_LONGEST) pa_nil)))))) pa_nil)))) (pw_or1 (pt_not (pt_val (pc g_is_ascending hr (pa_cons (pv 0) pa_nil))))))) (pss_one ps_never) pss_nil))), ?_⟩
  walk_at "rd"
  walk_at "if"
  · intro h1
    simp at h1
    omega
  intro h1
  walk_at "rd"
  intro D hD
  refine lc_map (walk_tup (xs := ls.map nV)) (fun i => .bl true) hD ?_ ?_ ?_ ?_
  · rw [List.length_map]
    exact le_line (by omega)
  · intro H2 s2
    exact Same.seqT s2 ha
  · intro i x H2 H3 R Rn hi s2 y hR
    obtain ⟨rfl, e⟩ := y
    obtain ⟨n, f1, rfl⟩ := get_map e
    have hn := hm n (List.mem_of_getElem? f1)
    walk_at "rd"
    have e2 : isIntV (nV n) 1 1000 = true := by simp [isIntV, nV]; omega
    rw [e2]
    exact hR _ (Same.refl _)
  intro H2 s2 h2
  refine ⟨D, (List.range (ls.map nV).length).map fun _ => true, rfl, sqL_of (by rw [h2, List.map_map]; rfl), ?_⟩
  rw [show ((List.range (ls.map nV).length).map fun _ => true).all id = true by simp]
  have ha2 := Same.seqT s2 ha
  rw [hls] at ha2
  have hl2 : (ls.map fun n : Nat => (n : Int)).length ≤ 100000 := by rw [List.length_map]; omega
  have hs2 : asc (ls.map fun n : Nat => (n : Int)) = true := by
    rw [asc_iff, List.pairwise_map]
    exact hs.imp fun h => by omega
  walk_at "rd"
  rw [hs2]
  intro H3 s3
  walk_at "rd"
  exact k H3 (s2.trans s3)
end
abbrev s_greatest_divisor : Stmt := top 11
abbrev n_greatest_divisor : List Str := ["first", "second"]
theorem sc_greatest_divisor : FnScope n_greatest_divisor ["first", "second"] (defScope s_greatest_divisor) := ⟨rfl, rfl, rfl, by decide +kernel, rfl, by decide +kernel, by decide +kernel⟩
section
variable {P : Program} {w : World} {K : PySem.W.Frag} {mg : Str → Option Value} {base : Heap}
theorem ok_greatest_divisor {f : Addr} {fd : FuncData} (F : At K mg "greatest_divisor" s_greatest_divisor f fd) (T : Blt mg)  : Cal P w K mg base CX0 1 "greatest_divisor" ["first", "second"] spGcd := by
  refine cal_mk F (F.fn.binds fun _ _ _ _ _ _ us hl => match us, hl with | [_, _], _ => rfl) sc_greatest_divisor (fun vs H Q E h => ?_) ?_
  · first
    | (obtain ⟨_, rfl, _⟩ := h; rfl)
    | (obtain ⟨_, _, rfl, _⟩ := h; rfl)
    | (obtain ⟨_, _, _, rfl, _⟩ := h; rfl)
    | (obtain ⟨_, _, _, _, rfl, _⟩ := h; rfl)
    | (obtain ⟨_, _, _, _, _, rfl, _⟩ := h; rfl)
    | (obtain ⟨_, _, _, _, _, _, rfl, _⟩ := h; rfl)
    | (obtain ⟨_, _, _, _, _, _, _, rfl, _⟩ := h; rfl)
    | (obtain ⟨_, _, _, _, _, _, _, _, rfl, _⟩ := h; rfl)
    | (obtain ⟨_, _, _, _, _, _, _, _, _, rfl, _⟩ := h; rfl)
    | (obtain ⟨_, _, _, _, _, _, _, _, _, _, rfl, _⟩ := h; rfl)
    | (obtain ⟨_, _, _, _, _, _, _, _, _, _, _, rfl, _⟩ := h; rfl)
    | (obtain ⟨_, _, _, _, _, _, _, _, _, _, _, _, rfl, _⟩ := h; rfl)
  intro cdv A outer s H vs Q E hr h
  obtain ⟨m, n, rfl, k⟩ := h
  refine ⟨_, (pss_cons (ps_while PassesOwn.never (pt_cmpR op_gt (pv 1) pe_int (nomark _)) (pss_one (ps_par (i := 0) (j := 1) (by rfl) sc_greatest_divisor.nd rfl rfl (by decide) rfl rfl (pa_cons (pv 1) (pa_cons (pe_op op_mod (pv 0) (pv 1)) pa_nil)) (by rfl))))
      (pss_one (ps_ret (pv 0)))), ?_⟩
  refine ⟨fun μ σ H1 => ∃ i j : Nat, σ = [some (.int (i : Int)), some (.int (j : Int))] ∧ H1 = H ∧ Nat.gcd i j = Nat.gcd m n ∧ μ = j, ⟨n, m, n, rfl, rfl, rfl, rfl⟩, ?_⟩
  rintro μ σ H1 ⟨i, j, rfl, rfl, hg, rfl⟩
  walk_at "rd"
  walk_at "if"
  · intro hc
    refine ⟨fun σ' H' => Hold _, fun _ _ h => h.h, ?_⟩
    walk_at "rd"
    refine ⟨i % μ, Nat.mod_lt _ (by omega), μ, i % μ, ?_, rfl, ?_, rfl⟩
    · show [some (V.int (μ : Int)), some (V.int ((i : Int) % (μ : Int)))] = _
      rw [Int.natCast_emod]
    · rw [← hg, Nat.gcd_comm i μ, Nat.gcd_rec μ i, Nat.gcd_comm]
  · intro hc
    have e : μ = 0 := by omega
    subst e
    walk_at "rd"
    rw [Nat.gcd_zero_right] at hg
    subst hg
    exact k
end
abbrev s_common_divisor : Stmt := top 13
abbrev n_common_divisor : List Str := ["lengths", "found", "length"]
theorem sc_common_divisor : FnScope n_common_divisor ["lengths"] (defScope s_common_divisor) := ⟨rfl, rfl, rfl, by decide +kernel, rfl, by decide +kernel, by decide +kernel⟩
section
variable {P : Program} {w : World} {K : PySem.W.Frag} {mg : Str → Option Value} {base : Heap}
theorem ok_common_divisor {f : Addr} {fd : FuncData} (F : At K mg "common_divisor" s_common_divisor f fd) (T : Blt mg) (g_check : Cal P w K mg base CX0 2 "check_lengths" ["lengths"] (spCheckLens K)) (g_gcd : Cal P w K mg base CX0 1 "greatest_divisor" ["first", "second"] spGcd) : Cal P w K mg base CX0 3 "common_divisor" ["lengths"] (spGcdL K) := by
  refine cal_mk F (F.fn.binds fun _ _ _ _ _ _ us hl => match us, hl with | [_], _ => rfl) sc_common_divisor (fun vs H Q E h => ?_) ?_
  · first
    | (obtain ⟨_, rfl, _⟩ := h; rfl)
    | (obtain ⟨_, _, rfl, _⟩ := h; rfl)
    | (obtain ⟨_, _, _, rfl, _⟩ := h; rfl)
    | (obtain ⟨_, _, _, _, rfl, _⟩ := h; rfl)
    | (obtain ⟨_, _, _, _, _, rfl, _⟩ := h; rfl)
    | (obtain ⟨_, _, _, _, _, _, rfl, _⟩ := h; rfl)
    | (obtain ⟨_, _, _, _, _, _, _, rfl, _⟩ := h; rfl)
    | (obtain ⟨_, _, _, _, _, _, _, _, rfl, _⟩ := h; rfl)
    | (obtain ⟨_, _, _, _, _, _, _, _, _, rfl, _⟩ := h; rfl)
    | (obtain ⟨_, _, _, _, _, _, _, _, _, _, rfl, _⟩ := h; rfl)
    | (obtain ⟨_, _, _, _, _, _, _, _, _, _, _, rfl, _⟩ := h; rfl)
    | (obtain ⟨_, _, _, _, _, _, _, _, _, _, _, _, rfl, _⟩ := h; rfl)
  intro cdv A outer s H vs Q E hr h
  obtain ⟨t, ls, rfl, ht, hl, k⟩ := h
  refine ⟨_, (pss_cons (ps_expr (pc g_check hr (pa_cons (pv 0) pa_nil)))
      (pss_cons (ps_set (i := 1) sc_common_divisor.nd rfl (Or.inl rfl) pe_int)
      (pss_cons (ps_for PassesOwn.never rfl (k_wT K (pv 0)) (pg_name (i := 2) sc_common_divisor.nd rfl (Or.inl rfl)) (pss_one (ps_set (i := 1) sc_common_divisor.nd rfl (Or.inl rfl) (pc g_gcd hr (pa_cons (pv 1) (pa_cons (pv 2) pa_nil))))))
      (pss_one (ps_ret (pv 1)))))), ?_⟩
  walk_at "rd"
  intro H1 s1
  have ht1 := Same.seqT s1 ht
  walk_at "rd"
  refine for_it (walk_tup (xs := ls.map nV)) (fun i σ H' => Hold (∃ x2, σ = [some (.ref t), some (.int (gcdL (ls.take i) : Int)), x2] ∧ Same H1 H')) ?_ ?_ ?_ ?_
  · exact ⟨_, rfl, Same.refl _⟩
  · rintro i σ H' _ ⟨_, _, s2⟩
    exact Same.seqT s2 ht1
  · rintro i x σ H2 H3 hi ⟨x2, rfl, s2⟩ y
    obtain ⟨rfl, e⟩ := y
    obtain ⟨n, en, rfl⟩ := get_map e
    walk_at "rd"
    refine ⟨some (nV n), ?_, s2⟩
    have e2 : gcdL (ls.take (i + 1)) = Nat.gcd (gcdL (ls.take i)) n := by
      unfold gcdL
      rw [List.take_succ, en]
      simp [List.foldl_append]
    rw [e2]
    rfl
  · rintro σ H2 ⟨x2, rfl, s2⟩
    walk_at "rd"
    have e3 : gcdL (ls.take (ls.map nV).length) = gcdL ls := by rw [List.length_map, List.take_length]
    rw [e3]
    exact k H2 (s1.trans s2)
end
end Ov

set_option maxHeartbeats 2000000
namespace Ov
open PySem PySem.Spec PyProof.Rows L2 RZ
local macro_rules | `(tactic| walk_at "hp") => `(tactic| first
  | assumption
  | exact upd_same
  | (apply upd_keep; (focus walk_at "hp"); assumption)
  | (apply upd_keepN; (focus walk_at "hp"); assumption)
  | (apply same_get; (focus assumption); walk_at "hp"))
local macro_rules | `(tactic| walk_at "sq") => `(tactic| first
  | assumption
  | (apply sqL_of; walk_at "hp")
  | (apply sqT_of; walk_at "hp")
  | (apply Same.seq; (focus assumption); walk_at "sq")
  | (apply Same.seqT; (focus assumption); walk_at "sq")
  | (apply Same.seq; (focus (apply same_new; assumption)); walk_at "sq")
  | (apply Same.seqT; (focus (apply same_new; assumption)); walk_at "sq"))
local macro_rules | `(tactic| walk_at "kd") => `(tactic| first
  | assumption
  | exact HasKd.int _
  | exact HasKd.bl _
  | exact HasKd.str _
  | exact HasKd.non
  | (apply HasKd.tup; walk_at "sq")
  | (apply HasKd.lst; walk_at "sq")
  | (apply HasKd.dic; walk_at "hp")
  | (apply HasKd.same; (focus assumption); walk_at "kd"))
local macro_rules | `(tactic| walk_at "sc") => `(tactic| first
  | assumption
  | walk_at "sq"
  | walk_at "kd"
  | (apply at_of; (focus assumption); assumption)
  | (apply atI_nat; assumption)
  | (apply ix_of; (focus assumption); (first | assumption | omega))
  | (apply tyL; walk_at "sq")
  | (apply Rd.of; walk_at "hp")
  | (apply dput_int; (focus walk_at "hp"); (apply lt_line; omega))
  | walk_at "hp"
  | (apply Exists.intro; walk_at "sq")
  | (refine Or.inl ?_; walk_at "sq")
  | (refine Or.inr ?_; walk_at "sq")
  | exact Dp.bl _
  | exact Dp.non
  | exact Dp.int _
  | exact Dp.str _
  | exact dep_bool
  | exact len_bool
  | decide
  | exact ⟨by decide, by decide, by decide⟩
  | (apply lt_line; (first | omega | (simp; done) | (simp; omega)))
  | (apply le_line; (first | omega | (simp; done) | (simp; omega)))
  | omega
  | (refine Or.inl ⟨?_, ?_⟩ <;> omega)
  | (refine Or.inr ⟨?_, ?_⟩ <;> omega)
  | (refine div_ok ?_ ?_ <;> omega))
local macro_rules | `(tactic| walk_at "rd1") => `(tactic| first
  | apply exi
  | (with_reducible apply iteBT; (focus (first | rfl | assumption)))
  | (with_reducible apply iteBF; (focus (first | rfl | assumption)))
  | (apply And.intro; (focus (first | rfl | (walk_at "sc"; done)))))
local macro_rules | `(tactic| walk_at "rd") => `(tactic| repeat walk_at "rd1")
local macro_rules | `(tactic| walk_at "if") => `(tactic| first | refine iteD ?_ ?_ | refine iteN ?_ ?_ | refine ite2 ?_ ?_)
local macro_rules | `(tactic| walk_at "sb") => `(tactic| first
  | assumption
  | exact SameB.refl _ _
  | (refine Same.toB ?_; assumption)
  | (refine SameB.new ?_ (by assumption); walk_at "sb")
  | (refine SameB.updp ?_; walk_at "sb"))
abbrev s_SumTable_go_round : Stmt := inClass (top 12) 2
abbrev n_SumTable_go_round : List Str := ["self", "remainder", "length", "cycle", "at", "known", "total", "turn"]
theorem sc_SumTable_go_round : FnScope n_SumTable_go_round ["self", "remainder", "length"] (defScope s_SumTable_go_round) := ⟨rfl, rfl, rfl, by decide +kernel, rfl, by decide +kernel, by decide +kernel⟩
section
variable {P : Program} {w : World} {K : PySem.W.Frag} {mg : Str → Option Value} {base : Heap}
theorem ok_go_round {f C : Addr} {fd : FuncData} (F : Fun K "go_round" "SumTable.go_round" s_SumTable_go_round f fd) (me : Meth K C "go_round" f) (T : Blt mg) (tx : TabTxt K mg C) : Met P w K mg base CX0 1 C "go_round" ["self", "remainder", "length"] (spRound C) := by
  refine met_mk tx.cl me F (F.binds fun _ _ _ _ _ _ us hl => match us, hl with | [_, _, _], _ => rfl) sc_SumTable_go_round (fun vs H Q E h => ?_) ?_
  · first
    | (obtain ⟨_, rfl, _⟩ := h; rfl)
    | (obtain ⟨_, _, rfl, _⟩ := h; rfl)
    | (obtain ⟨_, _, _, rfl, _⟩ := h; rfl)
    | (obtain ⟨_, _, _, _, rfl, _⟩ := h; rfl)
    | (obtain ⟨_, _, _, _, _, rfl, _⟩ := h; rfl)
    | (obtain ⟨_, _, _, _, _, _, rfl, _⟩ := h; rfl)
    | (obtain ⟨_, _, _, _, _, _, _, rfl, _⟩ := h; rfl)
    | (obtain ⟨_, _, _, _, _, _, _, _, rfl, _⟩ := h; rfl)
    | (obtain ⟨_, _, _, _, _, _, _, _, _, rfl, _⟩ := h; rfl)
    | (obtain ⟨_, _, _, _, _, _, _, _, _, _, rfl, _⟩ := h; rfl)
    | (obtain ⟨_, _, _, _, _, _, _, _, _, _, _, rfl, _⟩ := h; rfl)
    | (obtain ⟨_, _, _, _, _, _, _, _, _, _, _, _, rfl, _⟩ := h; rfl)
  intro cdv A outer s H vs Q E hr h
  obtain ⟨p, l, a, r, L, m, ls, lv, av, rfl, TA, hm, hm2, hL, hL2, hr0, hlen, hc, hA, k⟩ := h
  obtain ⟨⟨dx, fs, hob, hfs⟩, hl, ha, hne⟩ := id TA
  obtain ⟨cl, nM, nL, nA⟩ := id tx
  obtain ⟨fM, fL, fA, n1, n2, n3⟩ := id hfs
  refine ⟨_, (pss_cons (ps_par (i := 3) (j := 4) (by rfl) sc_SumTable_go_round.nd rfl rfl (by decide) rfl rfl (pa_cons (pe_lst pa_nil) (pa_cons (pv 1) pa_nil)) (by rfl))
      (pss_cons (ps_while PassesOwn.never (pt_cmpR (k_notIn K) (pv 4) (pe_slice (k_slL K) (pv 3) po_none (po_some pe_int)) (by rfl)) (pss_cons (ps_expr (k_bm K PySem.F.plainAttrs_list PySem.F.slot_list_append PySem.F.type_list_append mt_append (pv 3) (pa_cons (pv 4) pa_nil)))
      (pss_one (ps_set (i := 4) sc_SumTable_go_round.nd rfl (Or.inl rfl) (pe_op op_mod (pe_op op_add (pv 4) (pv 2)) (k_fld K (pv 0) rfl))))))
      (pss_cons (ps_setLc (i := 5) (own := [("at", 4)]) (g := (gName 4)) rfl sc_SumTable_go_round.nd rfl rfl (sw_true rfl rfl rfl (by decide +kernel)) (k_wL K (pv 3)) (blkOk_by (own := [("at", 4)]) (N := n_SumTable_go_round) (sc := defScope s_SumTable_go_round) (by decide +kernel)) (fun _ _ _ _ _ => (pg_name (i := 4) sc_SumTable_go_round.nd rfl (Or.inl rfl))) (fun _ _ _ _ _ => pts_one (pt_cmpR op_notN (pe_ix (k_ixL K) (k_fld K (pv 0) rfl) (pv 4) (fun _ _ => rfl)) pe_non (nomark _))) (fun _ _ _ _ _ => (pe_ix (k_ixL K) (k_fld K (pv 0) rfl) (pv 4) (fun _ _ => rfl))))
      (pss_cons (ps_if (pt_cmpR (k_eqD K hr.r.units) (pv 5) (pe_lst pa_nil) (nomark _)) (pss_one (ps_retN)) pss_nil)
      (pss_cons (ps_set (i := 6) sc_SumTable_go_round.nd rfl (Or.inl rfl) (pe_callB (k_min K) (by rfl) T.b_min (by decide +kernel) (pa_cons (pv 5) pa_nil)))
      (pss_one (ps_for PassesOwn.never rfl (k_wL K (pe_slice (k_slL K) (pv 3) (po_some pe_int) po_none)) (pg_name (i := 7) sc_SumTable_go_round.nd rfl (Or.inl rfl)) (pss_cons (ps_aug (i := 6) sc_SumTable_go_round.nd rfl (.inl rfl) (pv 2) ip_add)
      (pss_cons (ps_set (i := 4) sc_SumTable_go_round.nd rfl (Or.inl rfl) (pe_op op_mod (pv 6) (k_fld K (pv 0) rfl)))
      (pss_cons (ps_if (PW.pt (pw_or (pt_cmpR op_isN (pe_ix (k_ixL K) (k_fld K (pv 0) rfl) (pv 4) (fun _ _ => rfl)) pe_non (nomark _)) (pw_or1 (pt_cmpR op_lt (pv 6) (pe_ix (k_ixL K) (k_fld K (pv 0) rfl) (pv 4) (fun _ _ => rfl)) (nomark _))))) (pss_cons (ps_asg (pv 6) (pg_sub (k_fld K (pv 0) rfl) (pv 4) set_list))
      (pss_one (ps_asg (pv 2) (pg_sub (k_fld K (pv 0) rfl) (pv 4) set_list)))) pss_nil)
      (pss_one (ps_set (i := 6) sc_SumTable_go_round.nd rfl (Or.inl rfl) (pe_ix (k_ixL K) (k_fld K (pv 0) rfl) (pv 4) (fun _ _ => rfl)))))))))))))), ?_⟩
  walk_at "rd"
  intro cyc hcyc
  walk_at "rd"
  have hpc : p ≠ cyc := ne_of_none hob hcyc
  have hlc : l ≠ cyc := ne_of_none hl hcyc
  have hac : a ≠ cyc := ne_of_none ha hcyc
  have hgm : Nat.gcd L m ≤ m := Nat.gcd_le_right _ hm
  have hn := rnd_le (L := L) (m := m)
  have hn0 := rnd_pos (L := L) hm
  have hrm : (r + 0 * L) % m = r := by rw [Nat.zero_mul, Nat.add_zero]; exact Nat.mod_eq_of_lt (by omega)
  refine ⟨fun μ σ H1 => ∃ i, i ≤ rnd L m ∧ μ = rnd L m - i ∧ σ = [some (.ref p), some (.int (r : Int)), some (.int (L : Int)), some (.ref cyc), some (nV ((r + i * L) % m)), none, none, none] ∧
    Same H H1 ∧ H1 cyc = some (.lst ((List.range i).map fun j => nV ((r + j * L) % m))), ⟨rnd L m, 0, Nat.zero_le _, rfl, ?_, same_new hcyc, upd_same⟩, ?_⟩
  · rw [hrm]
    rfl
  rintro μ σ H1 ⟨i, hi, rfl, rfl, s1, h1⟩
  walk_at "rd"
  intro q hq
  have hcut : cutV ((List.range i).map fun j => nV ((r + j * L) % m)) none (some 1) = (if i = 0 then [] else [nV ((r + 0 * L) % m)]) := by
    rw [cutV_to (v := 1) (j := 1) rfl]
    cases i with
    | zero => rfl
    | succ i => rw [if_neg (by omega), List.range_succ_eq_map]; rfl
  rw [hcut]
  have hfl : (if i = 0 then [] else [nV ((r + 0 * L) % m)]).all flatV = true := by split <;> rfl
  walk_at "rd"
  have htest : (if true = true then !inV (nV ((r + i * L) % m)) (if i = 0 then [] else [nV ((r + 0 * L) % m)]) else inV (nV ((r + i * L) % m)) (if i = 0 then [] else [nV ((r + 0 * L) % m)])) = !decide (i = rnd L m) := by
    rw [if_pos rfl]
    congr 1
    by_cases h0 : i = 0
    · subst h0
      rw [if_pos rfl, decide_eq_false (by omega)]
      rfl
    · rw [if_neg h0, inV_one]
      by_cases hin : i = rnd L m
      · rw [decide_eq_true hin]
        refine decide_eq_true ?_
        subst hin
        have := step_back (L := L) (a := r) hm 1
        rw [Nat.one_mul] at this
        rw [this, Nat.zero_mul, Nat.add_zero]
      · rw [decide_eq_false hin]
        exact decide_eq_false (step_ne hm (by omega) (by omega))
  refine iteE htest ?_
  walk_at "if"
  · intro hne2
    refine ⟨fun σ' H' => Hold _, fun _ _ h => h.h, ?_⟩
    have s1' : Same H (upd H1 q (.lst (if i = 0 then [] else [nV ((r + 0 * L) % m)]))) := s1.trans (same_new hq)
    walk_at "rd"
    apply Hold.mk
    refine ⟨rnd L m - (i + 1), by omega, i + 1, by omega, rfl, ?_, same_lst s1' hcyc, ?_⟩
    · have e : ((((r + i * L) % m : Nat) : Int) + (L : Int)) % (m : Int) = (((r + (i + 1) * L) % m : Nat) : Int) := by
        have h2 : ((r + i * L) % m + L) % m = (r + (i + 1) * L) % m := by
          rw [Nat.mod_add_mod, Nat.succ_mul, Nat.add_assoc]
        rw [← h2]
        simp
      show [_, _, _, _, some (V.int (((((r + i * L) % m : Nat) : Int) + (L : Int)) % (m : Int))), _, _, _] = _
      rw [e]
      rfl
    · rw [upd_same, List.range_succ, List.map_append]
      rfl
  intro he
  subst he
  walk_at "rd"
  intro D hD
  have s2 : Same H (upd H1 q (.lst (if rnd L m = 0 then [] else [nV ((r + 0 * L) % m)]))) := s1.trans (same_new hq)
  have h2c : (upd H1 q (.lst (if rnd L m = 0 then [] else [nV ((r + 0 * L) % m)]))) cyc = some (.lst ((List.range (rnd L m)).map fun j => nV ((r + j * L) % m))) := upd_keep h1 hq
  generalize (upd H1 q (.lst (if rnd L m = 0 then [] else [nV ((r + 0 * L) % m)]))) = H2 at s2 h2c hD ⊢
  clear hq h1 s1 hcut hfl htest
  have hg : ∀ j, ∃ e, lv[(r + j * L) % m]? = some e := fun j => ⟨_, List.getElem?_eq_getElem (by rw [hlen]; exact Nat.mod_lt _ hm)⟩
  let g : Nat → Option Nat := fun j => (lv[(r + j * L) % m]?).getD none
  have hgv : ∀ j, lv[(r + j * L) % m]? = some (g j) := fun j => by
    obtain ⟨e, he⟩ := hg j
    show _ = some ((lv[(r + j * L) % m]?).getD none)
    rw [he]
    rfl
  have hxl : ((List.range (rnd L m)).map fun j => nV ((r + j * L) % m)).length = rnd L m := by simp
  refine lc_val (walk_list (xs := (List.range (rnd L m)).map fun j => nV ((r + j * L) % m))) (fun j => oV (g j)) (fun j => (g j).isSome) hD ?_ ?_ ?_ ?_
  · rw [hxl]
    exact le_line (by omega)
  · intro H3 s3
    exact sqL_of (s3 _ _ h2c)
  · intro j x H3 H4 R Rn hj s3 y hR hRn
    obtain ⟨rfl, e⟩ := y
    obtain ⟨j', e', rfl⟩ := get_map e
    obtain rfl : j' = j := by
      rw [hxl] at hj
      rw [List.getElem?_range hj] at e'
      exact (Option.some.inj e').symm
    have hat : (lv.map oV)[(r + j' * L) % m]? = some (oV (g j')) := by rw [List.getElem?_map, hgv]; rfl
    walk_at "rd"
    walk_at "if"
    · intro hnn
      have hs : (g j').isSome = true := by
        cases e : g j' with
        | none => exact absurd (by rw [e]; rfl) hnn
        | some u => rfl
      walk_at "rd"
      exact hR hs _ (Same.refl _)
    · intro hnn
      refine hRn ?_ _ (Same.refl _)
      cases e : g j' with
      | none => rfl
      | some u => rw [e] at hnn; cases hnn
  intro H3 s3 h3
  rw [hxl, filter_oV] at h3
  have s3' : Same H H3 := s2.trans s3
  have h3c := s3 _ _ h2c
  have h3D : H D = none := s2.free hD
  clear hD
  walk_at "rd"
  intro em hem
  refine eq_nilL (l := (List.range (rnd L m)).filterMap g) (sqL_of (upd_keep h3 hem)) (sqL_of upd_same) ?_
  walk_at "rd"
  have hks : ∀ u, u ∈ (List.range (rnd L m)).filterMap g ↔ ∃ j, j < rnd L m ∧ lv[(r + j * L) % m]? = some (some u) := by
    intro u
    rw [List.mem_filterMap]
    constructor
    · rintro ⟨j, hj, e⟩
      exact ⟨j, List.mem_range.mp hj, by rw [hgv, e]⟩
    · rintro ⟨j, hj, e⟩
      rw [hgv] at e
      exact ⟨j, List.mem_range.mpr hj, Option.some.inj e⟩
  generalize (List.range (rnd L m)).filterMap g = ks at h3 hks ⊢
  have s4 : Same H (upd H3 em (.lst [])) := s3'.trans (same_new hem)
  have h4c : (upd H3 em (.lst [])) cyc = _ := upd_keep h3c hem
  have h4k : (upd H3 em (.lst [])) D = _ := upd_keep h3 hem
  generalize (upd H3 em (.lst [])) = H4 at s4 h4c h4k ⊢
  clear hem h3 h3c s3' s3
  cases hke : ks.isEmpty with
  | true =>
    have hk0 : ks = [] := List.isEmpty_iff.mp hke
    subst hk0
    walk_at "rd"
    refine k lv av H4 hlen (round_none hm hc ?_) (fun _ _ _ => rfl) hA (TA.same s4) (fun b o _ _ h => s4 b o h)
    intro i hi u hu
    exact List.not_mem_nil ((hks u).mpr ⟨i, hi, hu⟩)
  | false =>
    have h4i : SqL K H4 D ((ks.map fun n : Nat => (n : Int)).map V.int) := sqL_of (by rw [h4k, List.map_map]; rfl)
    have hkl : 0 < (ks.map fun n : Nat => (n : Int)).length := by
      cases ks with
      | nil => cases hke
      | cons x y => simp
    walk_at "rd"
    intro z hz hmin
    obtain ⟨u, hu, rfl⟩ := List.mem_map.mp hz
    have hmin2 : ∀ y, y ∈ ks → u ≤ y := fun y hy => by
      have := hmin (y : Int) (List.mem_map.mpr ⟨y, hy, rfl⟩)
      omega
    obtain ⟨j0, hj0, hlu⟩ := (hks u).mp hu
    have hcu : (r + j0 * L) % m % Nat.gcd L m = r := by rw [step_class, Nat.mod_eq_of_lt hr0]
    have hum : u % m = (r + j0 * L) % m := by
      obtain ⟨e, e1, e2⟩ := hc _ (Nat.mod_lt (r + j0 * L) hm) hcu
      rw [hlu] at e1
      cases e1
      exact e2.2.1
    have hug : u % Nat.gcd L m = r := by
      rw [← hcu, ← hum, Nat.mod_mod_of_dvd _ (Nat.gcd_dvd_right L m)]
    have R0 : RInv ls L m u lv 0 u lv av := round_start hm hlen hr0 hc hA (by rw [hum]; exact hlu) hug (fun i hi w hw => hmin2 w ((hks w).mpr ⟨i, hi, hw⟩))
    walk_at "rd"
    intro sl hsl
    rw [cutV_from (v := 1) (i := 1) rfl]
    walk_at "rd"
    have hpl : p ≠ l := fun e => by rw [e, hl] at hob; cases hob
    have hpa : p ≠ a := fun e => by rw [e, ha] at hob; cases hob
    have hsll : sl ≠ l := fun e => by rw [e, s4 _ _ hl] at hsl; cases hsl
    have hsla : sl ≠ a := fun e => by rw [e, s4 _ _ ha] at hsl; cases hsl
    have s5 : Same H (upd H4 sl (.lst (((List.range (rnd L m)).map fun j => nV ((r + j * L) % m)).drop 1))) := s4.trans (same_new hsl)
    have h5s : (upd H4 sl (.lst (((List.range (rnd L m)).map fun j => nV ((r + j * L) % m)).drop 1))) sl = _ := upd_same
    generalize (upd H4 sl (.lst (((List.range (rnd L m)).map fun j => nV ((r + j * L) % m)).drop 1))) = H5 at s5 h5s ⊢
    have hdl : (((List.range (rnd L m)).map fun j => nV ((r + j * L) % m)).drop 1).length = rnd L m - 1 := by simp
    refine for_it (walk_list (xs := ((List.range (rnd L m)).map fun j => nV ((r + j * L) % m)).drop 1)) (fun t σ H' => Hold (∃ (v : Nat) (lv' av' : List (Option Nat)) (x4 x7 : Option V),
      σ = [some (.ref p), some (.int (r : Int)), some (.int (L : Int)), some (.ref cyc), x4, some (.ref D), some (.int (v : Int)), x7] ∧ RInv ls L m u lv t v lv' av' ∧
      H' l = some (.lst (lv'.map oV)) ∧ H' a = some (.lst (av'.map oV)) ∧ ∀ b o, b ≠ l → b ≠ a → H5 b = some o → H' b = some o)) ?_ ?_ ?_ ?_
    · exact ⟨u, lv, av, _, _, rfl, R0, s5 _ _ hl, s5 _ _ ha, fun b o _ _ h => h⟩
    · rintro t σ H' _ ⟨v, lv', av', x4, x7, _, _, _, _, hfr⟩
      exact sqL_of (hfr _ _ hsll hsla h5s)
    · rintro t x σ H' H6 ht ⟨v, lv', av', x4, x7, rfl, RI, hl', ha', hfr⟩ y
      obtain ⟨rfl, _⟩ := y
      rw [hdl] at ht
      have hob' := hfr _ _ hpl hpa (s5 _ _ hob)
      have hz2 : ((v : Int) + (L : Int)) % (m : Int) = (((v + L) % m : Nat) : Int) := by simp
      have hql : (v + L) % m < lv'.length := by rw [RI.len]; exact Nat.mod_lt _ hm
      obtain ⟨e, he⟩ : ∃ e, lv'[(v + L) % m]? = some e := ⟨_, List.getElem?_eq_getElem hql⟩
      have hat : (lv'.map oV)[(v + L) % m]? = some (oV e) := by rw [List.getElem?_map, he]; rfl
      have hq1 : (v + L) % m < (lv'.map oV).length := by rw [List.length_map]; exact hql
      have hq2 : (v + L) % m < (av'.map oV).length := by rw [List.length_map, RI.add.len]; exact hql
      have hset : ((lv'.map oV).set ((v + L) % m) (V.int ((v : Int) + (L : Int))))[(v + L) % m]? = some (V.int ((v : Int) + (L : Int))) := by
        rw [List.getElem?_set, if_pos rfl, if_pos hq1]
      have hal : a ≠ l := hne.symm
      have hput : (∀ w, lv'[(v + L) % m]? = some (some w) → v + L < w) → Hold (∃ (v1 : Nat) (lv1 av1 : List (Option Nat)) (x4 x7 : Option V),
          [some (.ref p), some (.int (r : Int)), some (.int (L : Int)), some (.ref cyc), some (.int (((v : Int) + (L : Int)) % (m : Int))), some (.ref D), some (.int ((v : Int) + (L : Int))), some x] =
            [some (.ref p), some (.int (r : Int)), some (.int (L : Int)), some (.ref cyc), x4, some (.ref D), some (.int (v1 : Int)), x7] ∧ RInv ls L m u lv (t + 1) v1 lv1 av1 ∧
          (upd (upd H6 l (.lst ((lv'.map oV).set ((v + L) % m) (V.int ((v : Int) + (L : Int)))))) a (.lst ((av'.map oV).set ((v + L) % m) (V.int (L : Int))))) l = some (.lst (lv1.map oV)) ∧
          (upd (upd H6 l (.lst ((lv'.map oV).set ((v + L) % m) (V.int ((v : Int) + (L : Int)))))) a (.lst ((av'.map oV).set ((v + L) % m) (V.int (L : Int))))) a = some (.lst (av1.map oV)) ∧
          ∀ b o, b ≠ l → b ≠ a → H5 b = some o → (upd (upd H6 l (.lst ((lv'.map oV).set ((v + L) % m) (V.int ((v : Int) + (L : Int)))))) a (.lst ((av'.map oV).set ((v + L) % m) (V.int (L : Int))))) b = some o) := by
        intro hw
        refine ⟨v + L, _, _, _, _, rfl, round_put hm hc hug (by omega) RI hw, ?_, ?_, ?_⟩
        · rw [upd_ne hne, upd_same, List.map_set]
          rfl
        · rw [upd_same, List.map_set]
          rfl
        · intro b o h1 h2 h
          rw [upd_ne h2, upd_ne h1]
          exact hfr b o h1 h2 h
      walk_at "rd"
      cases e with
      | none =>
        walk_at "rd"
        exact hput fun w hw => by rw [he] at hw; cases hw
      | some w =>
        walk_at "rd"
        walk_at "if"
        · intro hlt
          have hlt : (v : Int) + (L : Int) < (w : Int) := hlt
          walk_at "rd"
          exact hput fun w2 hw => by rw [he] at hw; cases hw; omega
        · intro hge
          have hge : ¬ (v : Int) + (L : Int) < (w : Int) := hge
          walk_at "rd"
          exact ⟨w, lv', av', _, _, rfl, round_keep hm hc hug (by omega) RI he (by omega), hl', ha', hfr⟩
    · rintro σ H' ⟨v, lv', av', x4, x7, rfl, RI, hl', ha', hfr⟩
      rw [hdl] at RI
      obtain ⟨e1, e2⟩ := round_end hm hug RI
      walk_at "rd"
      refine k lv' av' H' RI.len e1 e2 RI.add ⟨⟨dx, fs, hfr _ _ hpl hpa (s5 _ _ hob), hfs⟩, hl', ha', hne⟩ (fun b o h1 h2 h => hfr b o h1 h2 (s5 _ _ h))
end
end Ov

set_option maxHeartbeats 2000000
namespace Ov
open PySem PySem.Spec PyProof.Rows L2 RZ
local macro_rules | `(tactic| walk_at "hp") => `(tactic| first
  | assumption
  | exact upd_same
  | (apply upd_keep; (focus walk_at "hp"); assumption)
  | (apply upd_keepN; (focus walk_at "hp"); assumption)
  | (apply same_get; (focus assumption); walk_at "hp"))
local macro_rules | `(tactic| walk_at "sq") => `(tactic| first
  | assumption
  | (apply sqL_of; walk_at "hp")
  | (apply sqT_of; walk_at "hp")
  | (apply Same.seq; (focus assumption); walk_at "sq")
  | (apply Same.seqT; (focus assumption); walk_at "sq")
  | (apply Same.seq; (focus (apply same_new; assumption)); walk_at "sq")
  | (apply Same.seqT; (focus (apply same_new; assumption)); walk_at "sq"))
local macro_rules | `(tactic| walk_at "kd") => `(tactic| first
  | assumption
  | exact HasKd.int _
  | exact HasKd.bl _
  | exact HasKd.str _
  | exact HasKd.non
  | (apply HasKd.tup; walk_at "sq")
  | (apply HasKd.lst; walk_at "sq")
  | (apply HasKd.dic; walk_at "hp")
  | (apply HasKd.same; (focus assumption); walk_at "kd"))
local macro_rules | `(tactic| walk_at "sc") => `(tactic| first
  | assumption
  | walk_at "sq"
  | walk_at "kd"
  | (apply at_of; (focus assumption); assumption)
  | (apply atI_nat; assumption)
  | (apply ix_of; (focus assumption); (first | assumption | omega))
  | (apply tyL; walk_at "sq")
  | (apply Rd.of; walk_at "hp")
  | (apply dput_int; (focus walk_at "hp"); (apply lt_line; omega))
  | walk_at "hp"
  | (apply Exists.intro; walk_at "sq")
  | (refine Or.inl ?_; walk_at "sq")
  | (refine Or.inr ?_; walk_at "sq")
  | exact Dp.bl _
  | exact Dp.non
  | exact Dp.int _
  | exact Dp.str _
  | exact dep_bool
  | exact len_bool
  | decide
  | exact ⟨by decide, by decide, by decide⟩
  | (apply lt_line; (first | omega | (simp; done) | (simp; omega)))
  | (apply le_line; (first | omega | (simp; done) | (simp; omega)))
  | omega
  | (refine Or.inl ⟨?_, ?_⟩ <;> omega)
  | (refine Or.inr ⟨?_, ?_⟩ <;> omega)
  | (refine div_ok ?_ ?_ <;> omega))
local macro_rules | `(tactic| walk_at "rd1") => `(tactic| first
  | apply exi
  | (with_reducible apply iteBT; (focus (first | rfl | assumption)))
  | (with_reducible apply iteBF; (focus (first | rfl | assumption)))
  | (apply And.intro; (focus (first | rfl | (walk_at "sc"; done)))))
local macro_rules | `(tactic| walk_at "rd") => `(tactic| repeat walk_at "rd1")
local macro_rules | `(tactic| walk_at "if") => `(tactic| first | refine iteD ?_ ?_ | refine iteN ?_ ?_ | refine ite2 ?_ ?_)
local macro_rules | `(tactic| walk_at "sb") => `(tactic| first
  | assumption
  | exact SameB.refl _ _
  | (refine Same.toB ?_; assumption)
  | (refine SameB.new ?_ (by assumption); walk_at "sb")
  | (refine SameB.updp ?_; walk_at "sb"))
abbrev s_SumTable_add_length : Stmt := inClass (top 12) 1
abbrev n_SumTable_add_length : List Str := ["self", "length", "remainder"]
theorem sc_SumTable_add_length : FnScope n_SumTable_add_length ["self", "length"] (defScope s_SumTable_add_length) := ⟨rfl, rfl, rfl, by decide +kernel, rfl, by decide +kernel, by decide +kernel⟩
section
variable {P : Program} {w : World} {K : PySem.W.Frag} {mg : Str → Option Value} {base : Heap}
theorem ok_add_length {f C : Addr} {fd : FuncData} (F : Fun K "add_length" "SumTable.add_length" s_SumTable_add_length f fd) (me : Meth K C "add_length" f) (T : Blt mg) (tx : TabTxt K mg C) (g_gcd : Cal P w K mg base CX0 1 "greatest_divisor" ["first", "second"] spGcd)
    (g_round : Met P w K mg base CX0 1 C "go_round" ["self", "remainder", "length"] (spRound C)) : Met P w K mg base CX0 2 C "add_length" ["self", "length"] (spAdd C) := by
  refine met_mk tx.cl me F (F.binds fun _ _ _ _ _ _ us hl => match us, hl with | [_, _], _ => rfl) sc_SumTable_add_length (fun vs H Q E h => ?_) ?_
  · first
    | (obtain ⟨_, rfl, _⟩ := h; rfl)
    | (obtain ⟨_, _, rfl, _⟩ := h; rfl)
    | (obtain ⟨_, _, _, rfl, _⟩ := h; rfl)
    | (obtain ⟨_, _, _, _, rfl, _⟩ := h; rfl)
    | (obtain ⟨_, _, _, _, _, rfl, _⟩ := h; rfl)
    | (obtain ⟨_, _, _, _, _, _, rfl, _⟩ := h; rfl)
    | (obtain ⟨_, _, _, _, _, _, _, rfl, _⟩ := h; rfl)
    | (obtain ⟨_, _, _, _, _, _, _, _, rfl, _⟩ := h; rfl)
    | (obtain ⟨_, _, _, _, _, _, _, _, _, rfl, _⟩ := h; rfl)
    | (obtain ⟨_, _, _, _, _, _, _, _, _, _, rfl, _⟩ := h; rfl)
    | (obtain ⟨_, _, _, _, _, _, _, _, _, _, _, rfl, _⟩ := h; rfl)
    | (obtain ⟨_, _, _, _, _, _, _, _, _, _, _, _, rfl, _⟩ := h; rfl)
  intro cdv A outer s H vs Q E hr h
  obtain ⟨p, l, a, L, m, ls, lv, av, rfl, TA, hm, hm2, hL, hL2, TO, k⟩ := h
  obtain ⟨⟨dx, fs, hob, hfs⟩, hl, ha, hne⟩ := id TA
  obtain ⟨cl, nM, nL, nA⟩ := id tx
  obtain ⟨fM, fL, fA, n1, n2, n3⟩ := id hfs
  have hgm : Nat.gcd L m ≤ m := Nat.gcd_le_right _ hm
  have hg0 : 0 < Nat.gcd L m := Nat.gcd_pos_of_pos_right _ hm
  refine ⟨_, (pss_one (ps_for PassesOwn.never rfl (pi_range1 (by rfl) T.b_range (pa_cons (pc g_gcd hr (pa_cons (pv 1) (pa_cons (k_fld K (pv 0) rfl) pa_nil))) pa_nil)) (pg_name (i := 2) sc_SumTable_add_length.nd rfl (Or.inl rfl)) (pss_one (ps_expr (pm g_round hr (pv 0) (pa_cons (pv 2) (pa_cons (pv 1) pa_nil))))))), ?_⟩
  walk_at "rd"
  refine for_it (walk_upto (n := ((Nat.gcd L m : Nat) : Int).toNat)) (fun q σ H' => Hold (∃ (lv' av' : List (Option Nat)) (x2 : Option V), σ = [some (.ref p), some (.int (L : Int)), x2] ∧
    lv'.length = m ∧ (∀ r, r < m → r % Nat.gcd L m < q → ∃ e, lv'[r]? = some e ∧ EntOk (Sums (ls ++ [L])) m r e) ∧ (∀ r, r < m → q ≤ r % Nat.gcd L m → ∃ e, lv'[r]? = some e ∧ EntOk (Sums ls) m r e) ∧
    AOk (Sums (ls ++ [L])) (ls ++ [L]) lv' av' ∧ TabAt C H' p l a m lv' av' ∧ Same2 l a H H')) ?_ (fun _ _ _ _ _ => trivial) ?_ ?_
  · exact ⟨lv, av, _, rfl, TO.len, fun _ _ h => absurd h (Nat.not_lt_zero _), fun r hr _ => TO.ent r hr, TO.add.mono (fun s h => sums_more.mpr ⟨s, 0, h, by simp⟩) (fun _ h => by simp [h]), TA, Same2.refl _ _ _⟩
  · rintro q x σ H' H1 hq ⟨lv', av', x2, rfl, h1, h2, h3, h4, h5, h6⟩ y
    obtain ⟨rfl, rfl⟩ := y
    rw [Int.toNat_natCast] at hq
    obtain ⟨dx', fs', hob', hfs'⟩ := h5.ob
    have n2' := hfs'.n2
    have hc : ClassOk ls L m q lv' := fun r hr hrq => h3 r hr (by omega)
    walk_at "rd"
    intro lv2 av2 H2 e1 e2 e3 e4 e5 e6
    refine ⟨lv2, av2, _, rfl, e1, ?_, ?_, e4, e5, h6.trans e6⟩
    · intro r hr hrq
      by_cases h : r % Nat.gcd L m = q
      · exact e2 r hr h
      · rw [e3 r hr h]
        exact h2 r hr (by omega)
    · intro r hr hrq
      rw [e3 r hr (by omega)]
      exact h3 r hr (by omega)
  · rintro σ H' ⟨lv', av', x2, rfl, h1, h2, h3, h4, h5, h6⟩
    rw [Int.toNat_natCast] at h2
    refine k lv' av' H' ⟨h1, fun r hr => h2 r hr (Nat.mod_lt _ hg0), h4⟩ h5 h6
end
abbrev s_SumTable_init : Stmt := inClass (top 12) 0
abbrev n_SumTable_init : List Str := ["self", "lengths", "length"]
theorem sc_SumTable_init : FnScope n_SumTable_init ["self", "lengths"] (defScope s_SumTable_init) := ⟨rfl, rfl, rfl, by decide +kernel, rfl, by decide +kernel, by decide +kernel⟩
section
variable {P : Program} {w : World} {K : PySem.W.Frag} {mg : Str → Option Value} {base : Heap}
theorem ok_SumTable {f C : Addr} {fd : FuncData} (F : Fun K "__init__" "SumTable.__init__" s_SumTable_init f fd) (M : Mk K C f) (mC : mg "SumTable" = some (.ref C)) (T : Blt mg) (tx : TabTxt K mg C)
    (g_add : Met P w K mg base CX0 2 C "add_length" ["self", "length"] (spAdd C)) : Mak P w K mg base CX0 3 "SumTable" C ["self", "lengths"] (spTab K C) := by
  refine mak_mk M mC F (F.binds fun _ _ _ _ _ _ us hl => match us, hl with | [_, _], _ => rfl) sc_SumTable_init (fun vs H Q E h => ?_) ?_
  · first
    | (obtain ⟨_, rfl, _⟩ := h; rfl)
    | (obtain ⟨_, _, rfl, _⟩ := h; rfl)
    | (obtain ⟨_, _, _, rfl, _⟩ := h; rfl)
    | (obtain ⟨_, _, _, _, rfl, _⟩ := h; rfl)
    | (obtain ⟨_, _, _, _, _, rfl, _⟩ := h; rfl)
    | (obtain ⟨_, _, _, _, _, _, rfl, _⟩ := h; rfl)
    | (obtain ⟨_, _, _, _, _, _, _, rfl, _⟩ := h; rfl)
    | (obtain ⟨_, _, _, _, _, _, _, _, rfl, _⟩ := h; rfl)
    | (obtain ⟨_, _, _, _, _, _, _, _, _, rfl, _⟩ := h; rfl)
    | (obtain ⟨_, _, _, _, _, _, _, _, _, _, rfl, _⟩ := h; rfl)
    | (obtain ⟨_, _, _, _, _, _, _, _, _, _, _, rfl, _⟩ := h; rfl)
    | (obtain ⟨_, _, _, _, _, _, _, _, _, _, _, _, rfl, _⟩ := h; rfl)
  intro cdv A outer s H vs Q E hr h
  obtain ⟨p, dx, t, ls, rfl, hp, ht, ⟨hl1, hl2, hl3⟩, k⟩ := h
  obtain ⟨cl, nM, nL, nA⟩ := id tx
  refine ⟨_, (pss_cons (k_sfld K (pv 0) (pe_ifExp (pt_cmpR (k_neD K hr.r.units) (pv 1) (pe_tup pa_nil) (nomark _)) (pe_ix (k_ixT K) (pv 1) pe_int (fun _ _ => rfl)) pe_int) rfl)
      (pss_cons (k_sfld K (pv 0) (pe_op op_rep (pe_lst (pa_cons pe_non pa_nil)) (k_fld K (pv 0) rfl)) rfl)
      (pss_cons (k_sfld K (pv 0) (pe_op op_rep (pe_lst (pa_cons pe_non pa_nil)) (k_fld K (pv 0) rfl)) rfl)
      (pss_one (ps_if (pt_cmpR (k_neD K hr.r.units) (pv 1) (pe_tup pa_nil) (nomark _)) (pss_cons (ps_asg pe_int (pg_sub (k_fld K (pv 0) rfl) pe_int set_list))
      (pss_one (ps_for PassesOwn.never rfl (k_wT K (pe_slice (k_slT K) (pv 1) (po_some pe_int) po_none)) (pg_name (i := 2) sc_SumTable_init.nd rfl (Or.inl rfl)) (pss_one (ps_expr (pm g_add hr (pv 0) (pa_cons (pv 2) pa_nil))))))) pss_nil))))), ?_⟩
  walk_at "rd"
  intro em hem
  have hpe : p ≠ em := ne_of_none hp hem
  refine ne_nilT (Same.seqT (same_new hem) ht) (sqT_of upd_same) ?_
  obtain ⟨m, hm⟩ : ∃ m : Nat, m = ls.headD 0 := ⟨_, rfl⟩
  have hm3 : m ≤ 1000 := by
    rw [hm]
    cases ls with
    | nil => exact Nat.zero_le _
    | cons x r => exact (hl2 x (List.mem_cons_self ..)).2
  rw [← hm] at k
  have s0 : Same H (upd H em (.tup [])) := same_new hem
  have hp0 : (upd H em (.tup [])) p = some (.ins C dx []) := s0 _ _ hp
  have ht0 := Same.seqT s0 ht
  generalize (upd H em (.tup [])) = H0 at s0 hp0 ht0 ⊢
  have q1 : (putF "modulus" (V.int (m : Int)) []).lookup ("modulus" : Str) = some (V.int (m : Int)) := put_get
  have z0 : ([] : List (Str × V)).length < 1000 := by decide
  have z1 : (putF "modulus" (V.int (m : Int)) []).length < 1000 := Nat.lt_of_le_of_lt (put_few (n := 0) (Nat.le_refl 0)) (by decide)
  have htp : ∀ {H' : Hp}, SameB p H H' → SqT K H' t (ls.map nV) := fun {H'} sb => by
    rcases ht with (h | ⟨o, h⟩) | h
    · exact .inl (.inl (sb _ _ (fun e => by rw [e, hp] at h; cases h) h))
    · exact .inl (.inr ⟨o, sb _ _ (fun e => by rw [e, hp] at h; cases h) h⟩)
    · exact .inr h
  cases ls with
  | nil =>
    have hm : m = 0 := hm
    subst hm
    walk_at "rd"
    intro n1 hn1
    walk_at "rd"
    intro l hl
    have hlp : p ≠ l := fun e => by rw [← e, upd_keep upd_same hn1] at hl; cases hl
    have q2 : (putF "least" (V.ref l) (putF "modulus" (V.int ((0 : Nat) : Int)) [])).lookup ("modulus" : Str) = some (V.int ((0 : Nat) : Int)) := by rw [put_ne (by decide +kernel), put_get]
    have z2 : (putF "least" (V.ref l) (putF "modulus" (V.int ((0 : Nat) : Int)) [])).length < 1000 := Nat.lt_of_le_of_lt (put_few (put_few (n := 0) (Nat.le_refl 0))) (by decide)
    have hlf : H l = none := SameB.free (b := p) (by walk_at "sb") hlp.symm hl
    walk_at "rd"
    intro n2 hn2
    walk_at "rd"
    intro a ha
    have hap : p ≠ a := fun e => by rw [← e, upd_keep upd_same hn2] at ha; cases ha
    have haf : H a = none := SameB.free (b := p) (by walk_at "sb") hap.symm ha
    have hla : l ≠ a := fun e => by rw [← e, upd_keep (upd_keepN upd_same hlp.symm) hn2] at ha; cases ha
    walk_at "rd"
    intro em2 hem2
    refine (?g : ∀ H' : Hp, (SameB p H H' ∧ H' p = some (.ins C dx (putF "added" (V.ref a) (putF "least" (V.ref l) (putF "modulus" (V.int ((0 : Nat) : Int)) [])))) ∧
      H' l = some (.lst (List.replicate (0 : Nat) V.non)) ∧ H' a = some (.lst (List.replicate (0 : Nat) V.non)) ∧ H' em2 = some (.tup [])) → rNeD K (V.ref t) (V.ref em2) H' _) _ ?f
    case f =>
      refine ⟨by walk_at "sb", ?_, ?_, ?_, upd_same⟩
      · exact upd_keep upd_same hem2
      · refine upd_keep (upd_keepN (upd_keep (upd_keep (upd_keepN ?_ hlp.symm) hn2) ha) hlp.symm) hem2
        rw [upd_same]
        exact congrArg (fun z => some (HO.lst z)) rep_one
      · refine upd_keep (upd_keepN ?_ hap.symm) hem2
        rw [upd_same]
        exact congrArg (fun z => some (HO.lst z)) rep_one
    rintro H9 ⟨sb, g1, g2, g3, g4⟩
    refine ne_nilT (htp sb) (sqT_of g4) ?_
    walk_at "rd"
    exact k l a [] [] H9 hlf haf sb ⟨⟨dx, _, g1, tab_fs⟩, g2, g3, hla⟩ ⟨rfl, fun r hr => absurd hr (Nat.not_lt_zero _), rfl, fun r L e => by simp at e, fun r t _ e => by simp at e⟩
  | cons x r =>
    have hm : m = x := hm
    subst hm
    have hat : ((m :: r).map nV)[0]? = some (nV m) := rfl
    walk_at "rd"
    intro n1 hn1
    walk_at "rd"
    intro l hl
    have hlp : p ≠ l := fun e => by rw [← e, upd_keep upd_same hn1] at hl; cases hl
    have q2 : (putF "least" (V.ref l) (putF "modulus" (V.int (m : Int)) [])).lookup ("modulus" : Str) = some (V.int (m : Int)) := by rw [put_ne (by decide +kernel), put_get]
    have z2 : (putF "least" (V.ref l) (putF "modulus" (V.int (m : Int)) [])).length < 1000 := Nat.lt_of_le_of_lt (put_few (put_few (n := 0) (Nat.le_refl 0))) (by decide)
    have hlf : H l = none := SameB.free (b := p) (by walk_at "sb") hlp.symm hl
    walk_at "rd"
    intro n2 hn2
    walk_at "rd"
    intro a ha
    have hap : p ≠ a := fun e => by rw [← e, upd_keep upd_same hn2] at ha; cases ha
    have haf : H a = none := SameB.free (b := p) (by walk_at "sb") hap.symm ha
    have hla : l ≠ a := fun e => by rw [← e, upd_keep (upd_keepN upd_same hlp.symm) hn2] at ha; cases ha
    walk_at "rd"
    intro em2 hem2
    refine (?g2 : ∀ H' : Hp, (SameB p H H' ∧ H' p = some (.ins C dx (putF "added" (V.ref a) (putF "least" (V.ref l) (putF "modulus" (V.int (m : Int)) [])))) ∧
      H' l = some (.lst (List.replicate m V.non)) ∧ H' a = some (.lst (List.replicate m V.non)) ∧ H' em2 = some (.tup [])) → rNeD K (V.ref t) (V.ref em2) H' _) _ ?f2
    case f2 =>
      refine ⟨by walk_at "sb", ?_, ?_, ?_, upd_same⟩
      · exact upd_keep upd_same hem2
      · refine upd_keep (upd_keepN (upd_keep (upd_keep (upd_keepN ?_ hlp.symm) hn2) ha) hlp.symm) hem2
        rw [upd_same]
        exact congrArg (fun z => some (HO.lst z)) rep_one
      · refine upd_keep (upd_keepN ?_ hap.symm) hem2
        rw [upd_same]
        exact congrArg (fun z => some (HO.lst z)) rep_one
    rintro H9 ⟨sb, g1, g2, g3, g4⟩
    have ht9 := htp sb
    have hfs : TabFs m l a _ := tab_fs
    obtain ⟨fM, fL, fA, nn1, nn2, nn3⟩ := id hfs
    refine ne_nilT ht9 (sqT_of g4) ?_
    have hm1 := (hl2 m (List.mem_cons_self ..)).1
    have hz : (0 : Int) = ((0 : Nat) : Int) := rfl
    have hz2 : 0 < (List.replicate m V.non).length := by simp; omega
    have sb2 : SameB p H (upd H9 l (.lst ((List.replicate m V.non).set 0 (V.int 0)))) := sb.mut hlf
    have ht10 := htp sb2
    walk_at "rd"
    intro q H10 s10 hq
    rw [cutV_from (v := 1) (i := 1) rfl, List.map_cons, List.drop_one, List.tail_cons] at hq
    walk_at "rd"
    have hlv : (List.replicate m V.non).set 0 (V.int 0) = ((List.replicate m none).set 0 (some 0)).map oV := by
      rw [List.map_set, List.map_replicate]
      rfl
    have hav : List.replicate m V.non = (List.replicate m none).map oV := by rw [List.map_replicate]; rfl
    have T10 : TabAt C H10 p l a m ((List.replicate m none).set 0 (some 0)) (List.replicate m none) := by
      refine TabAt.same ⟨⟨dx, _, upd_keepN g1 hlp, tab_fs⟩, ?_, ?_, hla⟩ s10
      · rw [upd_same, hlv]
      · rw [upd_ne hla.symm, g3, hav]
    have sb3 : SameB p H H10 := sb2.same s10
    refine for_it (walk_tup (xs := r.map nV)) (fun i σ H' => Hold (∃ (lv av : List (Option Nat)) (x2 : Option V), σ = [some (.ref p), some (.ref t), x2] ∧ TabOk (m :: r.take i) m lv av ∧
      TabAt C H' p l a m lv av ∧ Same2 l a H10 H')) ?_ ?_ ?_ ?_
    · exact ⟨_, _, _, rfl, tab_first hm1, T10, Same2.refl _ _ _⟩
    · rintro i σ H' _ ⟨lv, av, x2, _, _, _, sx⟩
      rcases hq with (h | ⟨o, h⟩) | h
      · exact .inl (.inl (sx _ _ (fun e => by rw [e, T10.hl] at h; cases h) (fun e => by rw [e, T10.ha] at h; cases h) h))
      · exact .inl (.inr ⟨o, sx _ _ (fun e => by rw [e, T10.hl] at h; cases h) (fun e => by rw [e, T10.ha] at h; cases h) h⟩)
      · exact .inr h
    · rintro i y σ H' H11 hi ⟨lv, av, x2, rfl, TO, TA, sx⟩ yy
      obtain ⟨rfl, e⟩ := yy
      obtain ⟨L, eL, rfl⟩ := get_map e
      have hL := hl2 L (List.mem_cons_of_mem _ (List.mem_of_getElem? eL))
      obtain ⟨dx', fs', hob', hfs'⟩ := TA.ob
      have n1' := hfs'.n1
      have hL1 : 0 < L := hL.1
      have hL3 := hL.2
      have hm2 : 0 < m := hm1
      walk_at "rd"
      intro lv2 av2 H12 TO2 TA2 sx2
      refine ⟨lv2, av2, _, rfl, ?_, TA2, sx.trans sx2⟩
      rw [List.take_succ, eL]
      exact TO2
    · rintro σ H' ⟨lv, av, x2, rfl, TO, TA, sx⟩
      rw [List.length_map, List.take_length] at TO
      refine k l a lv av H' hlf haf ?_ TA TO
      intro b o hb h
      exact sx b o (ne_of_none h hlf) (ne_of_none h haf) (sb3 b o hb h)
end
abbrev s_least_sums : Stmt := top 14
abbrev n_least_sums : List Str := ["lengths"]
theorem sc_least_sums : FnScope n_least_sums ["lengths"] (defScope s_least_sums) := ⟨rfl, rfl, rfl, by decide +kernel, rfl, by decide +kernel, by decide +kernel⟩
section
variable {P : Program} {w : World} {K : PySem.W.Frag} {mg : Str → Option Value} {base : Heap}
theorem ok_least_sums {f : Addr} {fd : FuncData} (F : At K mg "least_sums" s_least_sums f fd) (T : Blt mg) {C : Addr} (tx : TabTxt K mg C) (g_check : Cal P w K mg base CX0 2 "check_lengths" ["lengths"] (spCheckLens K)) (g_tab : Mak P w K mg base CX0 3 "SumTable" C ["self", "lengths"] (spTab K C)) : Cal P w K mg base CX0 5 "least_sums" ["lengths"] (spLeast K) := by
  refine cal_mk F (F.fn.binds fun _ _ _ _ _ _ us hl => match us, hl with | [_], _ => rfl) sc_least_sums (fun vs H Q E h => ?_) ?_
  · first
    | (obtain ⟨_, rfl, _⟩ := h; rfl)
    | (obtain ⟨_, _, rfl, _⟩ := h; rfl)
    | (obtain ⟨_, _, _, rfl, _⟩ := h; rfl)
    | (obtain ⟨_, _, _, _, rfl, _⟩ := h; rfl)
    | (obtain ⟨_, _, _, _, _, rfl, _⟩ := h; rfl)
    | (obtain ⟨_, _, _, _, _, _, rfl, _⟩ := h; rfl)
    | (obtain ⟨_, _, _, _, _, _, _, rfl, _⟩ := h; rfl)
    | (obtain ⟨_, _, _, _, _, _, _, _, rfl, _⟩ := h; rfl)
    | (obtain ⟨_, _, _, _, _, _, _, _, _, rfl, _⟩ := h; rfl)
    | (obtain ⟨_, _, _, _, _, _, _, _, _, _, rfl, _⟩ := h; rfl)
    | (obtain ⟨_, _, _, _, _, _, _, _, _, _, _, rfl, _⟩ := h; rfl)
    | (obtain ⟨_, _, _, _, _, _, _, _, _, _, _, _, rfl, _⟩ := h; rfl)
  intro cdv A outer s H vs Q E hr h
  obtain ⟨t, ls, rfl, ht, hl, k⟩ := h
  obtain ⟨cl, nM, nL, nA⟩ := id tx
  refine ⟨_, (pss_cons (ps_expr (pc g_check hr (pa_cons (pv 0) pa_nil)))
      (pss_one (ps_ret (pe_callTy (k_tuple K) (by rfl) T.b_tuple (by decide +kernel) (pa_cons (k_fld K (pmk g_tab hr (pa_cons (pv 0) pa_nil)) rfl) pa_nil))))), ?_⟩
  walk_at "rd"
  intro H1 s1
  have ht1 := Same.seqT s1 ht
  walk_at "rd"
  intro x dx nx nd ne
  have s2 : Same H1 (upd (upd H1 dx (.own x)) x (.ins C dx [])) := (same_new nd).trans (same_new (by rw [upd_ne (fun e => ne e.symm)]; exact nx))
  have ht2 := Same.seqT s2 ht1
  refine ⟨x, dx, t, ls, rfl, upd_same, ht2, hl, ?_⟩
  intro l a lv av H2 f1 f2 sb TA TO
  have s3 := same_made nx nd sb
  obtain ⟨dx', fs, hob, hfs⟩ := TA.ob
  have fL := hfs.fL
  have hl2 := TA.hl
  walk_at "rd"
  intro q H3 s4 hq
  exact k q lv av H3 ((s1.trans s3).trans s4) hq TO
end
end Ov

set_option maxHeartbeats 2000000
namespace Ov
open PySem PySem.Spec PyProof.Rows L2 RZ
local macro_rules | `(tactic| walk_at "hp") => `(tactic| first
  | assumption
  | exact upd_same
  | (apply upd_keep; (focus walk_at "hp"); assumption)
  | (apply upd_keepN; (focus walk_at "hp"); assumption)
  | (apply same_get; (focus assumption); walk_at "hp"))
local macro_rules | `(tactic| walk_at "sq") => `(tactic| first
  | assumption
  | (apply sqL_of; walk_at "hp")
  | (apply sqT_of; walk_at "hp")
  | (apply Same.seq; (focus assumption); walk_at "sq")
  | (apply Same.seqT; (focus assumption); walk_at "sq")
  | (apply Same.seq; (focus (apply same_new; assumption)); walk_at "sq")
  | (apply Same.seqT; (focus (apply same_new; assumption)); walk_at "sq"))
local macro_rules | `(tactic| walk_at "kd") => `(tactic| first
  | assumption
  | exact HasKd.int _
  | exact HasKd.bl _
  | exact HasKd.str _
  | exact HasKd.non
  | (apply HasKd.tup; walk_at "sq")
  | (apply HasKd.lst; walk_at "sq")
  | (apply HasKd.dic; walk_at "hp")
  | (apply HasKd.same; (focus assumption); walk_at "kd"))
local macro_rules | `(tactic| walk_at "sc") => `(tactic| first
  | assumption
  | walk_at "sq"
  | walk_at "kd"
  | (apply at_of; (focus assumption); assumption)
  | (apply atI_nat; assumption)
  | (apply ix_of; (focus assumption); (first | assumption | omega))
  | (apply tyL; walk_at "sq")
  | (apply Rd.of; walk_at "hp")
  | (apply dput_int; (focus walk_at "hp"); (apply lt_line; omega))
  | walk_at "hp"
  | (apply Exists.intro; walk_at "sq")
  | (refine Or.inl ?_; walk_at "sq")
  | (refine Or.inr ?_; walk_at "sq")
  | exact Dp.bl _
  | exact Dp.non
  | exact Dp.int _
  | exact Dp.str _
  | exact dep_bool
  | exact len_bool
  | decide
  | exact ⟨by decide, by decide, by decide⟩
  | (apply lt_line; (first | omega | (simp; done) | (simp; omega)))
  | (apply le_line; (first | omega | (simp; done) | (simp; omega)))
  | omega
  | (refine Or.inl ⟨?_, ?_⟩ <;> omega)
  | (refine Or.inr ⟨?_, ?_⟩ <;> omega)
  | (refine div_ok ?_ ?_ <;> omega))
local macro_rules | `(tactic| walk_at "rd1") => `(tactic| first
  | apply exi
  | (with_reducible apply iteBT; (focus (first | rfl | assumption)))
  | (with_reducible apply iteBF; (focus (first | rfl | assumption)))
  | (apply And.intro; (focus (first | rfl | (walk_at "sc"; done)))))
local macro_rules | `(tactic| walk_at "rd") => `(tactic| repeat walk_at "rd1")
local macro_rules | `(tactic| walk_at "if") => `(tactic| first | refine iteD ?_ ?_ | refine iteN ?_ ?_ | refine ite2 ?_ ?_)
local macro_rules | `(tactic| walk_at "sb") => `(tactic| first
  | assumption
  | exact SameB.refl _ _
  | (refine Same.toB ?_; assumption)
  | (refine SameB.new ?_ (by assumption); walk_at "sb")
  | (refine SameB.updp ?_; walk_at "sb"))
abbrev s_l_take : Stmt := top 17
abbrev n_l_take : List Str := ["_law_box_here", "_law_many", "_law_digit", "_law_mixed"]
theorem sc_l_take : FnScope n_l_take ["_law_box_here", "_law_many"] (defScope s_l_take) := ⟨rfl, rfl, rfl, by decide +kernel, rfl, by decide +kernel, by decide +kernel⟩
section
variable {P : Program} {w : World} {K : PySem.W.Frag} {mg : Str → Option Value} {base : Heap}
theorem ok_take {f : Addr} {fd : FuncData} (F : At K mg "_law_take" s_l_take f fd) (T : Blt mg)  : Cal P w K mg base CX0 1 "_law_take" ["_law_box_here", "_law_many"] spTake := by
  refine cal_mk F (F.fn.binds fun _ _ _ _ _ _ us hl => match us, hl with | [_, _], _ => rfl) sc_l_take (fun vs H Q E h => ?_) ?_
  · first
    | (obtain ⟨_, rfl, _⟩ := h; rfl)
    | (obtain ⟨_, _, rfl, _⟩ := h; rfl)
    | (obtain ⟨_, _, _, rfl, _⟩ := h; rfl)
    | (obtain ⟨_, _, _, _, rfl, _⟩ := h; rfl)
    | (obtain ⟨_, _, _, _, _, rfl, _⟩ := h; rfl)
    | (obtain ⟨_, _, _, _, _, _, rfl, _⟩ := h; rfl)
    | (obtain ⟨_, _, _, _, _, _, _, rfl, _⟩ := h; rfl)
    | (obtain ⟨_, _, _, _, _, _, _, _, rfl, _⟩ := h; rfl)
    | (obtain ⟨_, _, _, _, _, _, _, _, _, rfl, _⟩ := h; rfl)
    | (obtain ⟨_, _, _, _, _, _, _, _, _, _, rfl, _⟩ := h; rfl)
    | (obtain ⟨_, _, _, _, _, _, _, _, _, _, _, rfl, _⟩ := h; rfl)
    | (obtain ⟨_, _, _, _, _, _, _, _, _, _, _, _, rfl, _⟩ := h; rfl)
  intro cdv A outer s H vs Q E hr h
  obtain ⟨b, m, N, rfl, hb, hN, hm, hm2, k⟩ := h
  obtain ⟨o, sd, n, hb, o1, o2, s1, s2, n1, n2⟩ := hb.ex
  refine ⟨_, (pss_cons (ps_if (pt_cmpR op_gt (pe_ix (k_ixL K) (pv 0) pe_int (fun _ _ => rfl)) pe_int (nomark _)) (pss_cons (ps_set (i := 2) sc_l_take.nd rfl (Or.inl rfl) (pe_op op_mod (pe_ix (k_ixL K) (pv 0) pe_int (fun _ _ => rfl)) (pv 1)))
      (pss_cons (ps_asg (pe_op op_fdivW (pe_ix (k_ixL K) (pv 0) pe_int (fun _ _ => rfl)) (pv 1)) (pg_sub (pv 0) pe_int set_list))
      (pss_one (ps_ret (pv 2))))) pss_nil)
      (pss_cons (ps_asg (pe_op op_add (pe_ix (k_ixL K) (pv 0) pe_int (fun _ _ => rfl)) pe_int) (pg_sub (pv 0) pe_int set_list))
      (pss_cons (ps_set (i := 3) sc_l_take.nd rfl (Or.inl rfl) (pe_op op_mod (pe_op op_mul (pe_op op_add (pe_op op_add (pe_ix (k_ixL K) (pv 0) pe_int (fun _ _ => rfl)) (pe_op op_mul (pe_op op_mul pe_int (pe_ix (k_ixL K) (pv 0) pe_int (fun _ _ => rfl))) (pe_ix (k_ixL K) (pv 0) pe_int (fun _ _ => rfl)))) pe_int) pe_int) pe_int))
      (pss_cons (ps_set (i := 3) sc_l_take.nd rfl (Or.inl rfl) (pe_op op_mod (pe_op op_mul (pv 3) (pe_op op_add (pe_op op_mod (pv 3) pe_int) (pe_op op_mul pe_int (pe_ix (k_ixL K) (pv 0) pe_int (fun _ _ => rfl))))) pe_int))
      (pss_one (ps_ret (pe_op op_mod (pe_op op_add (pe_op op_fdivW (pv 3) pe_int) (pe_op op_fdivW (pv 3) pe_int)) (pv 1)))))))), ?_⟩
  walk_at "rd"
  walk_at "if"
  · intro h0
    walk_at "rd"
    refine k _ _ (Int.emod_nonneg _ (by omega)) (Int.emod_lt_of_pos _ hm) ⟨o / m, sd, n, upd_same, Int.ediv_nonneg o1 (by omega), ?_, s1, s2, n1, by omega⟩ sameB_upd
    exact Int.lt_of_le_of_lt (Int.ediv_le_self m o1) o2
  · intro h0
    walk_at "rd"
    refine k _ _ (Int.emod_nonneg _ (by omega)) (Int.emod_lt_of_pos _ hm) ⟨o, sd, n + 1, upd_same, o1, o2, s1, s2, by omega, by omega⟩ sameB_upd
end
abbrev s_l_box : Stmt := top 16
abbrev n_l_box : List Str := ["_law_script", "_law_k", "_law_cell", "_law_own"]
theorem sc_l_box : FnScope n_l_box ["_law_script", "_law_k"] (defScope s_l_box) := ⟨rfl, rfl, rfl, by decide +kernel, rfl, by decide +kernel, by decide +kernel⟩
section
variable {P : Program} {w : World} {K : PySem.W.Frag} {mg : Str → Option Value} {base : Heap}
theorem ok_box {f : Addr} {fd : FuncData} (F : At K mg "_law_box" s_l_box f fd) (T : Blt mg)  : Cal P w K mg base CX0 1 "_law_box" ["_law_script", "_law_k"] (spBox K) := by
  refine cal_mk F (F.fn.binds fun _ _ _ _ _ _ us hl => match us, hl with | [_, _], _ => rfl) sc_l_box (fun vs H Q E h => ?_) ?_
  · first
    | (obtain ⟨_, rfl, _⟩ := h; rfl)
    | (obtain ⟨_, _, rfl, _⟩ := h; rfl)
    | (obtain ⟨_, _, _, rfl, _⟩ := h; rfl)
    | (obtain ⟨_, _, _, _, rfl, _⟩ := h; rfl)
    | (obtain ⟨_, _, _, _, _, rfl, _⟩ := h; rfl)
    | (obtain ⟨_, _, _, _, _, _, rfl, _⟩ := h; rfl)
    | (obtain ⟨_, _, _, _, _, _, _, rfl, _⟩ := h; rfl)
    | (obtain ⟨_, _, _, _, _, _, _, _, rfl, _⟩ := h; rfl)
    | (obtain ⟨_, _, _, _, _, _, _, _, _, rfl, _⟩ := h; rfl)
    | (obtain ⟨_, _, _, _, _, _, _, _, _, _, rfl, _⟩ := h; rfl)
    | (obtain ⟨_, _, _, _, _, _, _, _, _, _, _, rfl, _⟩ := h; rfl)
    | (obtain ⟨_, _, _, _, _, _, _, _, _, _, _, _, rfl, _⟩ := h; rfl)
  intro cdv A outer s H vs Q E hr h
  obtain ⟨a, ns, i, rfl, ha, hi, k⟩ := h
  refine ⟨_, (pss_cons (ps_set (i := 2) sc_l_box.nd rfl (Or.inl rfl) (pe_ifExp (pt_cmpR op_lt (pv 1) (pe_callB (k_len K) (by rfl) T.b_len PySem.boot_len (pa_cons (pv 0) pa_nil)) (nomark _)) (pe_ix (k_ixL K) (pv 0) (pv 1) (fun _ _ => rfl)) pe_int))
      (pss_cons (ps_set (i := 3) sc_l_box.nd rfl (Or.inl rfl) (pe_op op_mul (pe_op op_mod (pe_callB call_abs (by rfl) T.b_abs (by decide +kernel) (pa_cons (pv 2) pa_nil)) (pe_op op_mulW (pe_op op_mulW (pe_op op_mulW (pe_op op_pow pe_int pe_int) (pe_op op_pow pe_int pe_int)) (pe_op op_pow pe_int pe_int)) (pe_op op_pow pe_int pe_int))) (pe_callTy call_int1 (by rfl) T.b_int (by decide +kernel) (pa_cons (pe_cmpR op_ge (pe_callB call_abs (by rfl) T.b_abs (by decide +kernel) (pa_cons (pv 2) pa_nil)) (pe_op op_pow pe_int pe_int) (nomark _)) pa_nil))))
      (pss_one (ps_ret (pe_lst (pa_cons (pv 3) (pa_cons (pe_op op_mod (pe_op op_mul (pe_op op_add (pe_op op_add (pe_op op_mod (pv 2) pe_int) (pe_op op_mul (pe_op op_mul pe_int (pv 1)) (pv 1))) pe_int) pe_int) pe_int) (pa_cons pe_int pa_nil)))))))), ?_⟩
  have w1 : CMulW ((10 : Int) ^ Int.toNat 60) ((10 : Int) ^ Int.toNat 60) := w60
  have w2 : CMulW ((10 : Int) ^ Int.toNat 60 * (10 : Int) ^ Int.toNat 60) ((10 : Int) ^ Int.toNat 60) := w120
  have w3 : CMulW ((10 : Int) ^ Int.toNat 60 * (10 : Int) ^ Int.toNat 60 * (10 : Int) ^ Int.toNat 60) ((10 : Int) ^ Int.toNat 60) := w180
  have hM : 0 < (10 : Int) ^ Int.toNat 60 * (10 : Int) ^ Int.toNat 60 * (10 : Int) ^ Int.toNat 60 * (10 : Int) ^ Int.toNat 60 := by
    have := boxTop_pos
    rw [← p240] at this
    exact this
  walk_at "rd"
  walk_at "if"
  · intro hc
    have hc : (i : Int) < ((ns.map V.int).length : Int) := hc
    rw [List.length_map] at hc
    have hat : (ns.map V.int)[i]? = some (V.int (ns.getD i 0)) := by
      rw [List.getElem?_map, List.getElem?_eq_getElem (by omega)]
      simp [List.getD, List.getElem?_eq_getElem (show i < ns.length by omega)]
    generalize ns.getD i 0 = z at hat
    walk_at "rd"
    refine Or.inr ⟨_, rfl, ?_⟩
    obtain ⟨O, hO, hO1, hO2⟩ : ∃ O : Int, (if z < 0 then -z else z) % ((10 : Int) ^ Int.toNat 60 * (10 : Int) ^ Int.toNat 60 * (10 : Int) ^ Int.toNat 60 * (10 : Int) ^ Int.toNat 60) = O ∧ 0 ≤ O ∧ O < boxTop :=
      ⟨_, rfl, Int.emod_nonneg _ (by omega), by rw [← p240]; exact Int.emod_lt_of_pos _ hM⟩
    refine (?tA : ∀ e : Int, 0 ≤ e → e ≤ 1 → rI CMul (fun i j => V.int (i * j)) (V.int ((if z < 0 then -z else z) % ((10 : Int) ^ Int.toNat 60 * (10 : Int) ^ Int.toNat 60 * (10 : Int) ^ Int.toNat 60 * (10 : Int) ^ Int.toNat 60))) (V.int e) H _) _ ?_ ?_
    · rw [hO]
      intro e he0 he1
      walk_at "rd"
      intro b hb
      have hoe : 0 ≤ O * e ∧ O * e < boxTop := by
        have hcase : e = 0 ∨ e = 1 := by omega
        rcases hcase with rfl | rfl
        · rw [Int.mul_zero]
          exact ⟨Int.le_refl 0, boxTop_pos⟩
        · rw [Int.mul_one]
          exact ⟨hO1, hO2⟩
      exact k b _ hb ⟨_, _, _, upd_same, hoe.1, hoe.2, Int.emod_nonneg _ (by decide), Int.lt_trans (Int.emod_lt_of_pos _ (by decide)) (by decide), Int.le_refl 0, Int.le_refl 0⟩ (same_new hb)
    · exact bit01.1
    · exact bit01.2
  · intro hc
    walk_at "rd"
    refine Or.inr ⟨_, rfl, ?_⟩
    obtain ⟨O, hO, hO1, hO2⟩ : ∃ O : Int, (if (0 : Int) < 0 then -(0 : Int) else (0 : Int)) % ((10 : Int) ^ Int.toNat 60 * (10 : Int) ^ Int.toNat 60 * (10 : Int) ^ Int.toNat 60 * (10 : Int) ^ Int.toNat 60) = O ∧ 0 ≤ O ∧ O < boxTop :=
      ⟨_, rfl, Int.emod_nonneg _ (by omega), by rw [← p240]; exact Int.emod_lt_of_pos _ hM⟩
    refine (?tB : ∀ e : Int, 0 ≤ e → e ≤ 1 → rI CMul (fun i j => V.int (i * j)) (V.int ((if (0 : Int) < 0 then -(0 : Int) else (0 : Int)) % ((10 : Int) ^ Int.toNat 60 * (10 : Int) ^ Int.toNat 60 * (10 : Int) ^ Int.toNat 60 * (10 : Int) ^ Int.toNat 60))) (V.int e) H _) _ ?_ ?_
    · rw [hO]
      intro e he0 he1
      walk_at "rd"
      intro b hb
      have hoe : 0 ≤ O * e ∧ O * e < boxTop := by
        have hcase : e = 0 ∨ e = 1 := by omega
        rcases hcase with rfl | rfl
        · rw [Int.mul_zero]
          exact ⟨Int.le_refl 0, boxTop_pos⟩
        · rw [Int.mul_one]
          exact ⟨hO1, hO2⟩
      exact k b _ hb ⟨_, _, _, upd_same, hoe.1, hoe.2, Int.emod_nonneg _ (by decide), Int.lt_trans (Int.emod_lt_of_pos _ (by decide)) (by decide), Int.le_refl 0, Int.le_refl 0⟩ (same_new hb)
    · exact bit01.1
    · exact bit01.2
end
abbrev s_l_of : Stmt := top 18
abbrev n_l_of : List Str := ["_law_box_here", "_law_some"]
theorem sc_l_of : FnScope n_l_of ["_law_box_here", "_law_some"] (defScope s_l_of) := ⟨rfl, rfl, rfl, by decide +kernel, rfl, by decide +kernel, by decide +kernel⟩
section
variable {P : Program} {w : World} {K : PySem.W.Frag} {mg : Str → Option Value} {base : Heap}
theorem ok_of {f : Addr} {fd : FuncData} (F : At K mg "_law_of" s_l_of f fd) (T : Blt mg) (g_take : Cal P w K mg base CX0 1 "_law_take" ["_law_box_here", "_law_many"] spTake) : Cal P w K mg base CX0 2 "_law_of" ["_law_box_here", "_law_some"] (spOf K) := by
  refine cal_mk F (F.fn.binds fun _ _ _ _ _ _ us hl => match us, hl with | [_, _], _ => rfl) sc_l_of (fun vs H Q E h => ?_) ?_
  · first
    | (obtain ⟨_, rfl, _⟩ := h; rfl)
    | (obtain ⟨_, _, rfl, _⟩ := h; rfl)
    | (obtain ⟨_, _, _, rfl, _⟩ := h; rfl)
    | (obtain ⟨_, _, _, _, rfl, _⟩ := h; rfl)
    | (obtain ⟨_, _, _, _, _, rfl, _⟩ := h; rfl)
    | (obtain ⟨_, _, _, _, _, _, rfl, _⟩ := h; rfl)
    | (obtain ⟨_, _, _, _, _, _, _, rfl, _⟩ := h; rfl)
    | (obtain ⟨_, _, _, _, _, _, _, _, rfl, _⟩ := h; rfl)
    | (obtain ⟨_, _, _, _, _, _, _, _, _, rfl, _⟩ := h; rfl)
    | (obtain ⟨_, _, _, _, _, _, _, _, _, _, rfl, _⟩ := h; rfl)
    | (obtain ⟨_, _, _, _, _, _, _, _, _, _, _, rfl, _⟩ := h; rfl)
    | (obtain ⟨_, _, _, _, _, _, _, _, _, _, _, _, rfl, _⟩ := h; rfl)
  intro cdv A outer s H vs Q E hr h
  obtain ⟨b, q, xs, N, rfl, hb, hN, hq, hqb, hl0, hl, k⟩ := h
  have hq2 : SqL K H q xs ∨ SqT K H q xs := hq
  refine ⟨_, (pss_one (ps_ret (pe_ix (k_ixA K) (pv 1) (pc g_take hr (pa_cons (pv 0) (pa_cons (pe_callB (k_len K) (by rfl) T.b_len PySem.boot_len (pa_cons (pv 1) pa_nil)) pa_nil))) (fun _ _ => rfl)))), ?_⟩
  walk_at "rd"
  intro r H1 r0 r1 hb1 sb
  have hq3 : SeqV K H1 q xs := by
    rcases hq with h | h
    · exact .inl (sb.seqL hqb h)
    · exact .inr (hb.seqT sb h)
  have hz : r = ((r.toNat : Nat) : Int) := by omega
  have hlt : r.toNat < xs.length := by omega
  have hat : xs[r.toNat]? = some xs[r.toNat] := List.getElem?_eq_getElem hlt
  walk_at "rd"
  exact k _ H1 (List.getElem_mem hlt) hb1 sb
end
end Ov

set_option maxHeartbeats 2000000
namespace Ov
open PySem PySem.Spec PyProof.Rows L2 RZ
local macro_rules | `(tactic| walk_at "hp") => `(tactic| first
  | assumption
  | exact upd_same
  | (apply upd_keep; (focus walk_at "hp"); assumption)
  | (apply upd_keepN; (focus walk_at "hp"); assumption)
  | (apply same_get; (focus assumption); walk_at "hp"))
local macro_rules | `(tactic| walk_at "sq") => `(tactic| first
  | assumption
  | (apply sqL_of; walk_at "hp")
  | (apply sqT_of; walk_at "hp")
  | (apply Same.seq; (focus assumption); walk_at "sq")
  | (apply Same.seqT; (focus assumption); walk_at "sq")
  | (apply Same.seq; (focus (apply same_new; assumption)); walk_at "sq")
  | (apply Same.seqT; (focus (apply same_new; assumption)); walk_at "sq"))
local macro_rules | `(tactic| walk_at "kd") => `(tactic| first
  | assumption
  | exact HasKd.int _
  | exact HasKd.bl _
  | exact HasKd.str _
  | exact HasKd.non
  | (apply HasKd.tup; walk_at "sq")
  | (apply HasKd.lst; walk_at "sq")
  | (apply HasKd.dic; walk_at "hp")
  | (apply HasKd.same; (focus assumption); walk_at "kd"))
local macro_rules | `(tactic| walk_at "sc") => `(tactic| first
  | assumption
  | walk_at "sq"
  | walk_at "kd"
  | (apply at_of; (focus assumption); assumption)
  | (apply atI_nat; assumption)
  | (apply ix_of; (focus assumption); (first | assumption | omega))
  | (apply tyL; walk_at "sq")
  | (apply Rd.of; walk_at "hp")
  | (apply dput_int; (focus walk_at "hp"); (apply lt_line; omega))
  | walk_at "hp"
  | (apply Exists.intro; walk_at "sq")
  | (refine Or.inl ?_; walk_at "sq")
  | (refine Or.inr ?_; walk_at "sq")
  | exact Dp.bl _
  | exact Dp.non
  | exact Dp.int _
  | exact Dp.str _
  | exact dep_bool
  | exact len_bool
  | decide
  | exact ⟨by decide, by decide, by decide⟩
  | (apply lt_line; (first | omega | (simp; done) | (simp; omega)))
  | (apply le_line; (first | omega | (simp; done) | (simp; omega)))
  | omega
  | (refine Or.inl ⟨?_, ?_⟩ <;> omega)
  | (refine Or.inr ⟨?_, ?_⟩ <;> omega)
  | (refine div_ok ?_ ?_ <;> omega))
local macro_rules | `(tactic| walk_at "rd1") => `(tactic| first
  | apply exi
  | (with_reducible apply iteBT; (focus (first | rfl | assumption)))
  | (with_reducible apply iteBF; (focus (first | rfl | assumption)))
  | (apply And.intro; (focus (first | rfl | (walk_at "sc"; done)))))
local macro_rules | `(tactic| walk_at "rd") => `(tactic| repeat walk_at "rd1")
local macro_rules | `(tactic| walk_at "if") => `(tactic| first | refine iteD ?_ ?_ | refine iteN ?_ ?_ | refine ite2 ?_ ?_)
local macro_rules | `(tactic| walk_at "sb") => `(tactic| first
  | assumption
  | exact SameB.refl _ _
  | (refine Same.toB ?_; assumption)
  | (refine SameB.new ?_ (by assumption); walk_at "sb")
  | (refine SameB.updp ?_; walk_at "sb"))
abbrev s_l_drawn : Stmt := top 19
abbrev n_l_drawn : List Str := ["_law_box_here", "_law_factor", "_law_found", "_law_turn"]
theorem sc_l_drawn : FnScope n_l_drawn ["_law_box_here"] (defScope s_l_drawn) := ⟨rfl, rfl, rfl, by decide +kernel, rfl, by decide +kernel, by decide +kernel⟩
section
variable {P : Program} {w : World} {K : PySem.W.Frag} {mg : Str → Option Value} {base : Heap}
theorem ok_drawn {f : Addr} {fd : FuncData} (F : At K mg "_law_drawn" s_l_drawn f fd) (T : Blt mg) (g_take : Cal P w K mg base CX0 1 "_law_take" ["_law_box_here", "_law_many"] spTake) (g_of : Cal P w K mg base CX0 2 "_law_of" ["_law_box_here", "_law_some"] (spOf K)) : Cal P w K mg base CX0 3 "_law_drawn" ["_law_box_here"] (spDrawn K 24 6) := by
  refine cal_mk F (F.fn.binds fun _ _ _ _ _ _ us hl => match us, hl with | [_], _ => rfl) sc_l_drawn (fun vs H Q E h => ?_) ?_
  · first
    | (obtain ⟨_, rfl, _⟩ := h; rfl)
    | (obtain ⟨_, _, rfl, _⟩ := h; rfl)
    | (obtain ⟨_, _, _, rfl, _⟩ := h; rfl)
    | (obtain ⟨_, _, _, _, rfl, _⟩ := h; rfl)
    | (obtain ⟨_, _, _, _, _, rfl, _⟩ := h; rfl)
    | (obtain ⟨_, _, _, _, _, _, rfl, _⟩ := h; rfl)
    | (obtain ⟨_, _, _, _, _, _, _, rfl, _⟩ := h; rfl)
    | (obtain ⟨_, _, _, _, _, _, _, _, rfl, _⟩ := h; rfl)
    | (obtain ⟨_, _, _, _, _, _, _, _, _, rfl, _⟩ := h; rfl)
    | (obtain ⟨_, _, _, _, _, _, _, _, _, _, rfl, _⟩ := h; rfl)
    | (obtain ⟨_, _, _, _, _, _, _, _, _, _, _, rfl, _⟩ := h; rfl)
    | (obtain ⟨_, _, _, _, _, _, _, _, _, _, _, _, rfl, _⟩ := h; rfl)
  intro cdv A outer s H vs Q E hr h
  obtain ⟨b, N, rfl, hb, hN, k⟩ := h
  refine ⟨_, (pss_cons (ps_par (i := 1) (j := 2) (by rfl) sc_l_drawn.nd rfl rfl (by decide) rfl rfl (pa_cons (pc g_of hr (pa_cons (pv 0) (pa_cons (pe_lst (pa_cons pe_int (pa_cons pe_int (pa_cons pe_int (pa_cons pe_int (pa_cons pe_int pa_nil)))))) pa_nil))) (pa_cons pe_dnewK pa_nil)) (by rfl))
      (pss_cons (ps_for PassesOwn.never rfl (pi_range1 (by rfl) T.b_range (pa_cons (pc g_take hr (pa_cons (pv 0) (pa_cons pe_int pa_nil))) pa_nil)) (pg_name (i := 3) sc_l_drawn.nd rfl (Or.inl rfl)) (pss_one (ps_dput (hu_of hr.r) (pv 2) (pe_op op_mul (pv 1) (pe_op op_add pe_int (pc g_take hr (pa_cons (pv 0) (pa_cons (pe_op op_fdivW pe_int (pv 1)) pa_nil))))) pe_bl rfl)))
      (pss_one (ps_ret (pe_callTy (k_tuple K) (by rfl) T.b_tuple (by decide +kernel) (pa_cons (pe_callB (call_sortedDI rfl) (by rfl) T.b_sorted (by decide +kernel) (pa_cons (pv 2) pa_nil)) pa_nil)))))), ?_⟩
  walk_at "rd"
  intro q hq
  have hqb := hb.ne hq
  refine (?g : ∀ H', Same H H' → SeqV K H' q [V.int 1, V.int 1, V.int 2, V.int 3, V.int 4] → tNil (L2.start n_l_drawn [V.ref b]) H' _) _ (same_new hq) (.inl (sqL_of upd_same))
  intro H1 s1 hsv
  have hb1 := hb.same s1
  walk_at "rd"
  intro x H2 hx hb2 sb2
  obtain ⟨f, rfl, hf⟩ : ∃ f : Int, x = .int f ∧ (f = 1 ∨ f = 2 ∨ f = 3 ∨ f = 4) := by
    simp only [List.mem_cons, List.not_mem_nil, or_false] at hx
    rcases hx with rfl | rfl | rfl | rfl | rfl <;> exact ⟨_, rfl, by omega⟩
  walk_at "rd"
  intro d hd
  have hdb := hb2.ne hd
  have hdf : H d = none := ((Same.toB s1).trans sb2).free hdb hd
  have hb3 := hb2.same (same_new (o := .dK []) hd)
  walk_at "rd"
  intro r H3 r0 r1 hb4 sb4
  have h3d : H3 d = some (.dK []) := sb4 _ _ hdb upd_same
  have sb5 : SameB b H H3 := (((Same.toB s1).trans sb2).new hd).trans sb4
  walk_at "rd"
  have hd1 : 0 < 24 / f := by rcases hf with rfl | rfl | rfl | rfl <;> decide
  have hd2 : 24 / f ≤ 24 := by rcases hf with rfl | rfl | rfl | rfl <;> decide
  have hd3 : f * (24 / f) ≤ 24 := by rcases hf with rfl | rfl | rfl | rfl <;> decide
  have hf0 : 0 < f := by omega
  refine for_it (walk_upto (n := r.toNat)) (fun i σ H' => Hold (∃ (kvs : List (Key × V)) (ks : List Int) (x3 : Option V), σ = [some (.ref b), some (.int f), some (.ref d), x3] ∧ H' d = some (.dK kvs) ∧
    kvs.map (·.1) = ks.map Sum.inl ∧ ks.Nodup ∧ ks.length ≤ i ∧ (∀ x ∈ ks, 1 ≤ x ∧ x ≤ 24) ∧ BoxAt H' b (N + 2 + i) ∧ SameB b H H')) ?_ (fun _ _ _ _ _ => trivial) ?_ ?_
  · exact ⟨[], [], _, rfl, h3d, rfl, List.nodup_nil, Nat.le_refl 0, fun x h => absurd h List.not_mem_nil, hb4, sb5⟩
  · rintro i x σ H4 H5 hi ⟨kvs, ks, x3, rfl, e1, e2, e3, e4, e5, e6, e7⟩ y
    obtain ⟨rfl, rfl⟩ := y
    have hkl : kvs.length ≤ 1000 := by
      have := congrArg List.length e2
      rw [List.length_map, List.length_map] at this
      omega
    walk_at "rd"
    intro z H6 z0 z1 hb6 sb6
    have e1' := sb6 _ _ hdb e1
    walk_at "rd"
    obtain ⟨ks', p1, p2, p3, p4⟩ := put_keys (n := f * (1 + z)) (v := V.bl true) e2 e3
    refine ⟨_, ks', _, rfl, upd_same, p1, p2, by omega, ?_, ?_, ?_⟩
    · intro x hx
      rcases (p4 x).mp hx with rfl | hx
      · have h1 : f * (1 + z) ≤ f * (24 / f) := Int.mul_le_mul_of_nonneg_left (by omega) (by omega)
        have h2 : 0 < f * (1 + z) := Int.mul_pos hf0 (by omega)
        omega
      · exact e5 x hx
    · obtain ⟨o, sd, n, g1, g2⟩ := hb6.ex
      exact ⟨o, sd, n, by rw [upd_ne hdb.symm]; exact g1, by simpa [Nat.add_assoc] using g2⟩
    · exact (e7.trans sb6).mut hdf
  · rintro σ H4 ⟨kvs, ks, x3, rfl, e1, e2, e3, e4, e5, e6, e7⟩
    have hk6 : ks.length ≤ 6 := by omega
    walk_at "rd"
    intro ys p h1 h2 hp
    walk_at "rd"
    intro t H5 s5 ht
    have hy : ∀ y ∈ ys, 1 ≤ y ∧ y ≤ 24 := fun y hy => e5 y (h1.mem_iff.mp hy)
    have hn := toNats (ys := ys) fun y h => by have := hy y h; omega
    have hyl : ys.length = ks.length := h1.length_eq
    have hlt := asc_of_perm h1 h2 e3
    refine k t (ys.map Int.toNat) H5 ?_ ⟨?_, ?_, ?_⟩ ?_ ?_ ?_ ?_
    · rw [hn] at ht
      simpa [List.map_map, nV, Function.comp_def] using ht
    · rw [List.length_map]
      omega
    · intro x hx
      obtain ⟨y, hy1, rfl⟩ := List.mem_map.mp hx
      have := hy y hy1
      omega
    · rw [hn, List.pairwise_map] at hlt
      exact hlt.imp fun h => by omega
    · rw [List.length_map]
      omega
    · intro x hx
      obtain ⟨y, hy1, rfl⟩ := List.mem_map.mp hx
      have := hy y hy1
      omega
    · exact ((e6.same (same_new hp)).same s5).mono (by omega)
    · exact (e7.new hp).same s5
end
end Ov

set_option maxHeartbeats 2000000
namespace Ov
open PySem PySem.Spec PyProof.Rows L2 RZ
local macro_rules | `(tactic| walk_at "hp") => `(tactic| first
  | assumption
  | exact upd_same
  | (apply upd_keep; (focus walk_at "hp"); assumption)
  | (apply upd_keepN; (focus walk_at "hp"); assumption)
  | (apply same_get; (focus assumption); walk_at "hp"))
local macro_rules | `(tactic| walk_at "sq") => `(tactic| first
  | assumption
  | (apply sqL_of; walk_at "hp")
  | (apply sqT_of; walk_at "hp")
  | (apply Same.seq; (focus assumption); walk_at "sq")
  | (apply Same.seqT; (focus assumption); walk_at "sq")
  | (apply Same.seq; (focus (apply same_new; assumption)); walk_at "sq")
  | (apply Same.seqT; (focus (apply same_new; assumption)); walk_at "sq"))
local macro_rules | `(tactic| walk_at "kd") => `(tactic| first
  | assumption
  | exact HasKd.int _
  | exact HasKd.bl _
  | exact HasKd.str _
  | exact HasKd.non
  | (apply HasKd.tup; walk_at "sq")
  | (apply HasKd.lst; walk_at "sq")
  | (apply HasKd.dic; walk_at "hp")
  | (apply HasKd.same; (focus assumption); walk_at "kd"))
local macro_rules | `(tactic| walk_at "sc") => `(tactic| first
  | assumption
  | walk_at "sq"
  | walk_at "kd"
  | (apply at_of; (focus assumption); assumption)
  | (apply atI_nat; assumption)
  | (apply ix_of; (focus assumption); (first | assumption | omega))
  | (apply tyL; walk_at "sq")
  | (apply Rd.of; walk_at "hp")
  | (apply dput_int; (focus walk_at "hp"); (apply lt_line; omega))
  | walk_at "hp"
  | (apply Exists.intro; walk_at "sq")
  | (refine Or.inl ?_; walk_at "sq")
  | (refine Or.inr ?_; walk_at "sq")
  | exact Dp.bl _
  | exact Dp.non
  | exact Dp.int _
  | exact Dp.str _
  | exact dep_bool
  | exact len_bool
  | decide
  | exact ⟨by decide, by decide, by decide⟩
  | (apply lt_line; (first | omega | (simp; done) | (simp; omega)))
  | (apply le_line; (first | omega | (simp; done) | (simp; omega)))
  | omega
  | (refine Or.inl ⟨?_, ?_⟩ <;> omega)
  | (refine Or.inr ⟨?_, ?_⟩ <;> omega)
  | (refine div_ok ?_ ?_ <;> omega))
local macro_rules | `(tactic| walk_at "rd1") => `(tactic| first
  | apply exi
  | (with_reducible apply iteBT; (focus (first | rfl | assumption)))
  | (with_reducible apply iteBF; (focus (first | rfl | assumption)))
  | (apply And.intro; (focus (first | rfl | (walk_at "sc"; done)))))
local macro_rules | `(tactic| walk_at "rd") => `(tactic| repeat walk_at "rd1")
local macro_rules | `(tactic| walk_at "if") => `(tactic| first | refine iteD ?_ ?_ | refine iteN ?_ ?_ | refine ite2 ?_ ?_)
local macro_rules | `(tactic| walk_at "sb") => `(tactic| first
  | assumption
  | exact SameB.refl _ _
  | (refine Same.toB ?_; assumption)
  | (refine SameB.new ?_ (by assumption); walk_at "sb")
  | (refine SameB.updp ?_; walk_at "sb"))
abbrev s_l_divisor : Stmt := top 21
abbrev n_l_divisor : List Str := ["_law_some", "_law_found", "_law_one", "_law_length"]
theorem sc_l_divisor : FnScope n_l_divisor ["_law_some"] (defScope s_l_divisor) := ⟨rfl, rfl, rfl, by decide +kernel, rfl, by decide +kernel, by decide +kernel⟩
section
variable {P : Program} {w : World} {K : PySem.W.Frag} {mg : Str → Option Value} {base : Heap}
theorem ok_ldivisor {f : Addr} {fd : FuncData} (F : At K mg "_law_divisor" s_l_divisor f fd) (T : Blt mg)  : Cal P w K mg base CX0 1 "_law_divisor" ["_law_some"] (spDiv2 K) := by
  refine cal_mk F (F.fn.binds fun _ _ _ _ _ _ us hl => match us, hl with | [_], _ => rfl) sc_l_divisor (fun vs H Q E h => ?_) ?_
  · first
    | (obtain ⟨_, rfl, _⟩ := h; rfl)
    | (obtain ⟨_, _, rfl, _⟩ := h; rfl)
    | (obtain ⟨_, _, _, rfl, _⟩ := h; rfl)
    | (obtain ⟨_, _, _, _, rfl, _⟩ := h; rfl)
    | (obtain ⟨_, _, _, _, _, rfl, _⟩ := h; rfl)
    | (obtain ⟨_, _, _, _, _, _, rfl, _⟩ := h; rfl)
    | (obtain ⟨_, _, _, _, _, _, _, rfl, _⟩ := h; rfl)
    | (obtain ⟨_, _, _, _, _, _, _, _, rfl, _⟩ := h; rfl)
    | (obtain ⟨_, _, _, _, _, _, _, _, _, rfl, _⟩ := h; rfl)
    | (obtain ⟨_, _, _, _, _, _, _, _, _, _, rfl, _⟩ := h; rfl)
    | (obtain ⟨_, _, _, _, _, _, _, _, _, _, _, rfl, _⟩ := h; rfl)
    | (obtain ⟨_, _, _, _, _, _, _, _, _, _, _, _, rfl, _⟩ := h; rfl)
  intro cdv A outer s H vs Q E hr h
  obtain ⟨t, ls, rfl, ht, hl, h24, k⟩ := h
  refine ⟨_, (pss_cons (ps_setLc (i := 1) (own := [("_law_one", 2)]) (g := (gName 2)) rfl sc_l_divisor.nd rfl rfl (sw_true rfl rfl rfl (by decide +kernel)) (pi_range2 (by rfl) T.b_range (pa_cons pe_int (pa_cons pe_int pa_nil))) (blkOk_by (own := [("_law_one", 2)]) (N := n_l_divisor) (sc := defScope s_l_divisor) (by decide +kernel)) (fun _ _ _ _ _ => (pg_name (i := 2) sc_l_divisor.nd rfl (Or.inr rfl))) (fun _ _ _ _ _ => pts_one (pt_val (pe_callB (k_all K) (by rfl) T.b_all (by decide +kernel) (pa_cons (pe_lc (own := [("_law_length", 3)]) (g := (gName 3)) (tt := tYes) (by rfl) sc_l_divisor.nd (k_wT K (pv 0)) (blkOk_by (own := [("_law_length", 3)]) (N := n_l_divisor) (sc := { kind := .function, names := [(PySem.Str.ofString ".0", PySem.NameKind.local), (PySem.Str.ofString "_law_one", PySem.NameKind.cell), (PySem.Str.ofString "all", PySem.NameKind.globalImplicit), (PySem.Str.ofString "_law_some", PySem.NameKind.cell)], isGenerator := false, isCoroutine := false }) (by decide +kernel)) (fun _ _ _ _ _ => (pg_name (i := 3) sc_l_divisor.nd rfl (Or.inl rfl))) (fun _ _ _ _ _ => pts_nil) (fun _ _ _ _ _ => (pe_cmpR op_eq (pe_op op_mod (pv 3) (pv 2)) pe_int (nomark _)))) pa_nil)))) (fun _ _ _ _ _ => (pv 2)))
      (pss_one (ps_ret (pe_ifExp (pt_cmpR (k_neD K hr.r.units) (pv 0) (pe_tup pa_nil) (nomark _)) (pe_ix (k_ixL K) (pv 1) (pe_un un_neg pe_int) (fun _ _ => rfl)) pe_int)))), ?_⟩
  walk_at "rd"
  intro D hD
  let c : Nat → Bool := fun i => ((List.range (ls.map nV).length).map fun j => decide (V.int ((ls.getD j 0 : Int) % (1 + (i : Int))) = V.int 0)).all id
  have hc : ∀ i, c i = true ↔ ∀ x ∈ ls, (i + 1) ∣ x := by
    intro i
    show ((List.range (ls.map nV).length).map fun j => decide (V.int ((ls.getD j 0 : Int) % (1 + (i : Int))) = V.int 0)).all id = true ↔ _
    rw [List.all_map, List.all_eq_true]
    constructor
    · intro h x hx
      obtain ⟨j, hj, ex⟩ := List.getElem_of_mem hx
      have := h j (List.mem_range.mpr (by rw [List.length_map]; exact hj))
      have := of_decide_eq_true this
      have hg : ls.getD j 0 = x := by simp [List.getD, List.getElem?_eq_getElem hj, ex]
      rw [hg] at this
      have := V.int.inj this
      exact Nat.dvd_of_mod_eq_zero (by rw [Int.add_comm] at this; exact_mod_cast this)
    · intro h j hj
      rw [List.mem_range, List.length_map] at hj
      have hg : ls.getD j 0 = ls[j] := by simp [List.getD, List.getElem?_eq_getElem hj]
      have := Nat.mod_eq_zero_of_dvd (h ls[j] (List.getElem_mem hj))
      refine decide_eq_true ?_
      rw [hg]
      congr 1
      rw [Int.add_comm]
      exact_mod_cast this
  refine lc_val (walk_range (lo := 1) (n := ((25 : Int) - 1).toNat)) (fun i => .int (1 + (i : Int))) c hD (by decide) (fun _ _ => trivial) ?_ ?_
  · intro i x H1 H2 R Rn hi s1 y hR hRn
    obtain ⟨rfl, rfl⟩ := y
    have ht1 := Same.seqT s1 ht
    walk_at "rd"
    intro D2 hD2
    refine lc_map (walk_tup (xs := ls.map nV)) (fun j => .bl (decide (V.int ((ls.getD j 0 : Int) % (1 + (i : Int))) = V.int 0))) hD2 ?_ ?_ ?_ ?_
    · rw [List.length_map]
      exact le_line (by have := hl.1; omega)
    · intro H3 s3
      exact Same.seqT s3 ht1
    · intro j x H3 H4 R2 Rn2 hj s3 y hR2
      obtain ⟨rfl, e⟩ := y
      obtain ⟨n, en, rfl⟩ := get_map e
      have hg : ls.getD j 0 = n := by simp [List.getD, en]
      rw [hg] at hR2
      walk_at "rd"
      exact hR2 _ (Same.refl _)
    intro H3 s3 h3
    refine ⟨D2, (List.range (ls.map nV).length).map fun j => decide (V.int ((ls.getD j 0 : Int) % (1 + (i : Int))) = V.int 0), rfl, sqL_of (by rw [h3, List.map_map]; rfl), ?_⟩
    walk_at "rd"
    cases hci : c i with
    | true =>
      refine iteBT hci ?_
      walk_at "rd"
      exact hR hci _ s3
    | false =>
      refine iteBF hci ?_
      exact hRn hci _ s3
  intro H1 s1 h1
  have ht1 := Same.seqT s1 ht
  walk_at "rd"
  intro em hem
  refine ne_nilT (Same.seqT (same_new hem) ht1) (sqT_of upd_same) ?_
  have s2 := s1.trans (same_new (o := .tup []) hem)
  have h2 := upd_keep (o := .tup []) h1 hem
  cases ls with
  | nil =>
    walk_at "rd"
    exact k _ s2
  | cons x r =>
    have hx := hl.2.1 x (List.mem_cons_self ..)
    have hg0 : 0 < gcdL (x :: r) := gcdL_pos (List.mem_cons_self ..) (by omega)
    have hg24 : gcdL (x :: r) ≤ 24 := Nat.le_trans (Nat.le_of_dvd (by omega) (gcdL_dvd (List.mem_cons_self ..))) (h24 x (List.mem_cons_self ..))
    have hlast := filter_last (c := c) (g := gcdL (x :: r)) (fun i hi => by
      cases e : c i with
      | false => rfl
      | true =>
        have := Nat.le_of_dvd hg0 (dvd_gcdL ((hc i).mp e))
        omega) ((hc _).mpr fun y hy => by rw [Nat.sub_add_cancel hg0]; exact gcdL_dvd hy) hg0 24 hg24
    have e24 : ((25 : Int) - 1).toNat = 24 := rfl
    rw [e24, hlast, List.map_append] at h2
    have hat := atI_last (((List.range (gcdL (x :: r) - 1)).filter c).map fun i : Nat => V.int (1 + (i : Int))) (V.int (1 + ((gcdL (x :: r) - 1 : Nat) : Int)))
    walk_at "rd"
    have e2 : 1 + ((gcdL (x :: r) - 1 : Nat) : Int) = (gcdL (x :: r) : Int) := by omega
    rw [e2]
    exact k _ s2
end
end Ov

set_option maxHeartbeats 2000000
namespace Ov
open PySem PySem.Spec PyProof.Rows L2 RZ
local macro_rules | `(tactic| walk_at "hp") => `(tactic| first
  | assumption
  | exact upd_same
  | (apply upd_keep; (focus walk_at "hp"); assumption)
  | (apply upd_keepN; (focus walk_at "hp"); assumption)
  | (apply same_get; (focus assumption); walk_at "hp"))
local macro_rules | `(tactic| walk_at "sq") => `(tactic| first
  | assumption
  | (apply sqL_of; walk_at "hp")
  | (apply sqT_of; walk_at "hp")
  | (apply Same.seq; (focus assumption); walk_at "sq")
  | (apply Same.seqT; (focus assumption); walk_at "sq")
  | (apply Same.seq; (focus (apply same_new; assumption)); walk_at "sq")
  | (apply Same.seqT; (focus (apply same_new; assumption)); walk_at "sq"))
local macro_rules | `(tactic| walk_at "kd") => `(tactic| first
  | assumption
  | exact HasKd.int _
  | exact HasKd.bl _
  | exact HasKd.str _
  | exact HasKd.non
  | (apply HasKd.tup; walk_at "sq")
  | (apply HasKd.lst; walk_at "sq")
  | (apply HasKd.dic; walk_at "hp")
  | (apply HasKd.same; (focus assumption); walk_at "kd"))
local macro_rules | `(tactic| walk_at "sc") => `(tactic| first
  | assumption
  | walk_at "sq"
  | walk_at "kd"
  | (apply at_of; (focus assumption); assumption)
  | (apply atI_nat; assumption)
  | (apply ix_of; (focus assumption); (first | assumption | omega))
  | (apply tyL; walk_at "sq")
  | (apply Rd.of; walk_at "hp")
  | (apply dput_int; (focus walk_at "hp"); (apply lt_line; omega))
  | walk_at "hp"
  | (apply Exists.intro; walk_at "sq")
  | (refine Or.inl ?_; walk_at "sq")
  | (refine Or.inr ?_; walk_at "sq")
  | exact Dp.bl _
  | exact Dp.non
  | exact Dp.int _
  | exact Dp.str _
  | exact dep_bool
  | exact len_bool
  | decide
  | exact ⟨by decide, by decide, by decide⟩
  | (apply lt_line; (first | omega | (simp; done) | (simp; omega)))
  | (apply le_line; (first | omega | (simp; done) | (simp; omega)))
  | omega
  | (refine Or.inl ⟨?_, ?_⟩ <;> omega)
  | (refine Or.inr ⟨?_, ?_⟩ <;> omega)
  | (refine div_ok ?_ ?_ <;> omega))
local macro_rules | `(tactic| walk_at "rd1") => `(tactic| first
  | apply exi
  | (with_reducible apply iteBT; (focus (first | rfl | assumption)))
  | (with_reducible apply iteBF; (focus (first | rfl | assumption)))
  | (apply And.intro; (focus (first | rfl | (walk_at "sc"; done)))))
local macro_rules | `(tactic| walk_at "rd") => `(tactic| repeat walk_at "rd1")
local macro_rules | `(tactic| walk_at "if") => `(tactic| first | refine iteD ?_ ?_ | refine iteN ?_ ?_ | refine ite2 ?_ ?_)
local macro_rules | `(tactic| walk_at "sb") => `(tactic| first
  | assumption
  | exact SameB.refl _ _
  | (refine Same.toB ?_; assumption)
  | (refine SameB.new ?_ (by assumption); walk_at "sb")
  | (refine SameB.updp ?_; walk_at "sb"))
abbrev s_l_least : Stmt := top 20
abbrev n_l_least : List Str := ["_law_some", "_law_most", "_law_sums", "_law_found", "_law_whole", "_law_one"]
theorem sc_l_least : FnScope n_l_least ["_law_some"] (defScope s_l_least) := ⟨rfl, rfl, rfl, by decide +kernel, rfl, by decide +kernel, by decide +kernel⟩
section
variable {P : Program} {w : World} {K : PySem.W.Frag} {mg : Str → Option Value} {base : Heap}
theorem ok_lleast {f : Addr} {fd : FuncData} (F : At K mg "_law_least" s_l_least f fd) (T : Blt mg)  : Cal P w K mg base CX0 1 "_law_least" ["_law_some"] (spLeast2 K) := by
  refine cal_mk F (F.fn.binds fun _ _ _ _ _ _ us hl => match us, hl with | [_], _ => rfl) sc_l_least (fun vs H Q E h => ?_) ?_
  · first
    | (obtain ⟨_, rfl, _⟩ := h; rfl)
    | (obtain ⟨_, _, rfl, _⟩ := h; rfl)
    | (obtain ⟨_, _, _, rfl, _⟩ := h; rfl)
    | (obtain ⟨_, _, _, _, rfl, _⟩ := h; rfl)
    | (obtain ⟨_, _, _, _, _, rfl, _⟩ := h; rfl)
    | (obtain ⟨_, _, _, _, _, _, rfl, _⟩ := h; rfl)
    | (obtain ⟨_, _, _, _, _, _, _, rfl, _⟩ := h; rfl)
    | (obtain ⟨_, _, _, _, _, _, _, _, rfl, _⟩ := h; rfl)
    | (obtain ⟨_, _, _, _, _, _, _, _, _, rfl, _⟩ := h; rfl)
    | (obtain ⟨_, _, _, _, _, _, _, _, _, _, rfl, _⟩ := h; rfl)
    | (obtain ⟨_, _, _, _, _, _, _, _, _, _, _, rfl, _⟩ := h; rfl)
    | (obtain ⟨_, _, _, _, _, _, _, _, _, _, _, _, rfl, _⟩ := h; rfl)
  intro cdv A outer s H vs Q E hr h
  obtain ⟨t, ls, rfl, ht, hl, h24, k⟩ := h
  refine ⟨_, (pss_cons (ps_if (pt_cmpR (k_eqD K hr.r.units) (pv 0) (pe_tup pa_nil) (nomark _)) (pss_one (ps_ret (pe_tup pa_nil))) pss_nil)
      (pss_cons (ps_set (i := 1) sc_l_least.nd rfl (Or.inl rfl) (pe_op op_mul (pe_ix (k_ixT K) (pv 0) pe_int (fun _ _ => rfl)) (pe_ix (k_ixT K) (pv 0) (pe_un un_neg pe_int) (fun _ _ => rfl))))
      (pss_cons (ps_asg (pe_tup (pa_cons (pe_op op_cat (pe_lst (pa_cons pe_bl pa_nil)) (pe_op op_rep (pe_lst (pa_cons pe_bl pa_nil)) (pv 1))) (pa_cons (pe_op op_rep (pe_lst (pa_cons pe_non pa_nil)) (pe_ix (k_ixT K) (pv 0) pe_int (fun _ _ => rfl))) pa_nil))) (k_gtup K (pgs_cons (pg_name (i := 2) sc_l_least.nd rfl (Or.inr rfl)) (pgs_cons (pg_name (i := 3) sc_l_least.nd rfl (Or.inl rfl)) pgs_nil))))
      (pss_cons (ps_for PassesOwn.never rfl (pi_range1 (by rfl) T.b_range (pa_cons (pe_op op_add (pv 1) pe_int) pa_nil)) (pg_name (i := 4) sc_l_least.nd rfl (Or.inr rfl)) (pss_cons (ps_if (pt_cmpR op_gt (pv 4) pe_int (nomark _)) (pss_one (ps_asg (pe_callB (k_any K) (by rfl) T.b_any (by decide +kernel) (pa_cons (pe_lc (own := [("_law_one", 5)]) (g := (gName 5)) (tt := tYes) (by rfl) sc_l_least.nd (k_wT K (pv 0)) (blkOk_by (own := [("_law_one", 5)]) (N := n_l_least) (sc := defScope s_l_least) (by decide +kernel)) (fun _ _ _ _ _ => (pg_name (i := 5) sc_l_least.nd rfl (Or.inl rfl))) (fun _ _ _ _ _ => pts_nil) (fun _ _ _ _ _ => (pe_and (pe_cmpR op_le (pv 5) (pv 4) (nomark _)) (pe_one (pe_ix (k_ixL K) (pv 2) (pe_op op_sub (pv 4) (pv 5)) (fun _ _ => rfl)))))) pa_nil)) (pg_sub (pv 2) (pv 4) set_list))) pss_nil)
      (pss_one (ps_if (PW.pt (pw_and (pt_val (pe_ix (k_ixL K) (pv 2) (pv 4) (fun _ _ => rfl))) (pw_and1 (pt_cmpR op_isN (pe_ix (k_ixL K) (pv 3) (pe_op op_mod (pv 4) (pe_ix (k_ixT K) (pv 0) pe_int (fun _ _ => rfl))) (fun _ _ => rfl)) pe_non (nomark _))))) (pss_one (ps_asg (pv 4) (pg_sub (pv 3) (pe_op op_mod (pv 4) (pe_ix (k_ixT K) (pv 0) pe_int (fun _ _ => rfl))) set_list))) pss_nil))))
      (pss_one (ps_ret (pe_callTy (k_tuple K) (by rfl) T.b_tuple (by decide +kernel) (pa_cons (pv 3) pa_nil)))))))), ?_⟩
  walk_at "rd"
  intro em hem
  refine eq_nilT (Same.seqT (same_new hem) ht) (sqT_of upd_same) ?_
  have s0 : Same H (upd H em (.tup [])) := same_new hem
  have ht0 := Same.seqT s0 ht
  generalize (upd H em (.tup [])) = H0 at s0 ht0 ⊢
  cases ls with
  | nil =>
    walk_at "rd"
    intro q hq
    exact k q [] _ (s0.trans (same_new hq)) (sqT_of upd_same) rfl (fun r hr => absurd hr (Nat.not_lt_zero r))
  | cons m r =>
    have hm1 := (hl.2.1 m (List.mem_cons_self ..)).1
    have hm24 := h24 m (List.mem_cons_self ..)
    obtain ⟨ini, M, eM⟩ : ∃ ini M, m :: r = ini ++ [M] := ⟨(m :: r).dropLast, (m :: r).getLast (List.cons_ne_nil _ _), (List.dropLast_concat_getLast _).symm⟩
    have hMm : M ∈ m :: r := by rw [eM]; simp
    have hM24 := h24 M hMm
    have hMax : ∀ x ∈ m :: r, x ≤ M := by
      intro x hx
      have hpw := hl.2.2
      rw [eM] at hx hpw
      rcases List.mem_append.mp hx with hx | hx
      · exact Nat.le_of_lt ((List.pairwise_append.mp hpw).2.2 x hx M (List.mem_singleton.mpr rfl))
      · rw [List.mem_singleton.mp hx]
        exact Nat.le_refl M
    have hpos : ∀ x ∈ m :: r, 1 ≤ x := fun x hx => (hl.2.1 x hx).1
    have hat1 : ((m :: r).map nV)[0]? = some (nV m) := rfl
    have hz0 : (0 : Int) = ((0 : Nat) : Int) := rfl
    have hat2 : atI ((m :: r).map nV) (-1) = some (nV M) := by rw [eM, List.map_append]; exact atI_last _ _
    have hmM : (m : Int) * (M : Int) = ((m * M : Nat) : Int) := by simp
    have hmM2 : m * M ≤ 576 := Nat.le_trans (Nat.mul_le_mul hm24 hM24) (by decide)
    have hrep1 : [V.bl false].length * ((m : Int) * (M : Int)).toNat ≤ sizeLine := by
      rw [hmM, Int.toNat_natCast]
      exact le_line (by show 1 * (m * M) ≤ 100000; omega)
    have hrep2 : [V.non].length * ((m : Int)).toNat ≤ sizeLine := by
      rw [Int.toNat_natCast]
      exact le_line (by show 1 * m ≤ 100000; omega)
    walk_at "rd"
    intro a1 ha1
    walk_at "rd"
    intro a2 ha2
    walk_at "rd"
    intro a3 ha3
    walk_at "rd"
    intro p hp
    walk_at "rd"
    intro a4 ha4
    walk_at "rd"
    intro fd2 hfd
    walk_at "rd"
    intro tp htp
    refine (?g : ∀ H', Same H H' → H' p = some (.lst ((true :: List.replicate (m * M) false).map V.bl)) → H' fd2 = some (.lst ((List.replicate m none).map oV)) → H' tp = some (.tup [V.ref p, V.ref fd2]) → gTup K _ _ (V.ref tp) _ H' _) _ ?_ ?_ ?_ ?_
    rotate_left
    · exact ((((((s0.trans (same_new ha1)).trans (same_new ha2)).trans (same_new ha3)).trans (same_new hp)).trans (same_new ha4)).trans (same_new hfd)).trans (same_new htp)
    · refine upd_keep (upd_keep (upd_keep ?_ ha4) hfd) htp
      rw [upd_same, hmM, Int.toNat_natCast, rep_one, List.map_cons, List.map_replicate]
      rfl
    · refine upd_keep ?_ htp
      rw [upd_same, Int.toNat_natCast, rep_one, List.map_replicate]
      rfl
    · exact upd_same
    have hpf : H p = none := (((s0.trans (same_new ha1)).trans (same_new ha2)).trans (same_new ha3)).free hp
    have hff : H fd2 = none := (((((s0.trans (same_new ha1)).trans (same_new ha2)).trans (same_new ha3)).trans (same_new hp)).trans (same_new ha4)).free hfd
    have hpd : p ≠ fd2 := fun e => by
      rw [← e, upd_keep upd_same ha4] at hfd
      cases hfd
    clear htp hfd ha4 hp ha3 ha2 ha1
    intro H1 s1 h1 h2 h3
    walk_at "rd"
    have hn : ((m : Int) * (M : Int) + 1).toNat = m * M + 1 := by rw [hmM]; omega
    refine for_it (walk_upto (n := ((m : Int) * (M : Int) + 1).toNat)) (fun i σ H' => Hold (∃ (bs : List Bool) (fv : List (Option Nat)) (x4 : Option V), σ = [some (.ref t), some (.int ((m : Int) * (M : Int))), some (.ref p), some (.ref fd2), x4, none] ∧
      H' p = some (.lst (bs.map V.bl)) ∧ H' fd2 = some (.lst (fv.map oV)) ∧ bs.length = m * M + 1 ∧ fv.length = m ∧ (∀ j b, j < i ∨ j = 0 → bs[j]? = some b → (b = true ↔ Sums (m :: r) j)) ∧
      (∀ q, q < m → ∃ e, fv[q]? = some e ∧ EntLt (Sums (m :: r)) m q i e) ∧ Same H H')) ?_ (fun _ _ _ _ _ => trivial) ?_ ?_
    · refine ⟨_, _, _, rfl, h1, h2, by simp, by simp, ?_, ?_, s1⟩
      · intro j b hj e
        obtain rfl : j = 0 := by omega
        have : b = true := by simpa using e.symm
        subst this
        exact ⟨fun _ => .zero, fun _ => rfl⟩
      · intro q hq
        exact ⟨none, by rw [List.getElem?_replicate, if_pos hq], fun s hs => absurd hs (Nat.not_lt_zero s)⟩
    · rintro i x σ H2 H3 hi ⟨bs, fv, x4, rfl, e1, e2, e3, e4, e5, e6, e7⟩ y
      obtain ⟨rfl, rfl⟩ := y
      rw [hn] at hi
      have ht2 := Same.seqT e7 ht
      have hm0 : 0 < m := hm1
      obtain ⟨e, g1, g2⟩ := e6 (i % m) (Nat.mod_lt _ hm0)
      walk_at "rd"
      walk_at "if"
      · intro hc
        have hc : (0 : Int) < (i : Int) := hc
        walk_at "rd"
        intro D hD
        have hDp : p ≠ D := ne_of_none e1 hD
        have hDf : fd2 ≠ D := ne_of_none e2 hD
        refine lc_map (walk_tup (xs := (m :: r).map nV)) (fun j => .bl (decide ((m :: r).getD j 0 ≤ i) && bs.getD (i - (m :: r).getD j 0) false)) hD ?_ ?_ ?_ ?_
        · rw [List.length_map]
          have := hl.1
          exact le_line (by omega)
        · intro H4 s4
          exact Same.seqT s4 ht2
        · intro j x H4 H5 R Rn hj s4 y hR
          obtain ⟨rfl, e⟩ := y
          obtain ⟨a, ea, rfl⟩ := get_map e
          have ha := hpos a (List.mem_of_getElem? ea)
          have hga : (m :: r).getD j 0 = a := by simp [List.getD, ea]
          rw [hga] at hR
          walk_at "rd"
          walk_at "if"
          · intro hc
            have hc : (a : Int) ≤ (i : Int) := hc
            have hz : (i : Int) - (a : Int) = ((i - a : Nat) : Int) := by omega
            have hat : (bs.map V.bl)[i - a]? = some (V.bl (bs.getD (i - a) false)) := by
              rw [List.getElem?_map, List.getElem?_eq_getElem (by omega)]
              simp [List.getD, List.getElem?_eq_getElem (show i - a < bs.length by omega)]
            rw [decide_eq_true (show a ≤ i by omega), Bool.true_and] at hR
            walk_at "rd"
            exact hR _ (Same.refl _)
          · intro hc
            have hc : ¬ (a : Int) ≤ (i : Int) := hc
            rw [decide_eq_false (show ¬ a ≤ i by omega), Bool.false_and] at hR
            exact hR _ (Same.refl _)
        intro H4 s4 h4
        obtain ⟨bl0, hbl0⟩ : ∃ l, l = (List.range ((m :: r).map nV).length).map fun j => decide ((m :: r).getD j 0 ≤ i) && bs.getD (i - (m :: r).getD j 0) false := ⟨_, rfl⟩
        refine ⟨D, bl0, rfl, sqL_of (by rw [h4, hbl0, List.map_map]; rfl), ?_⟩
        have e1' := s4 _ _ e1
        have e2' := s4 _ _ e2
        have ht4 := Same.seqT s4 ht2
        have hlt : i < (bs.map V.bl).length := by rw [List.length_map]; omega
        have hzi : (i : Int) = ((i : Nat) : Int) := rfl
        have hz : ((i : Nat) : Int) % (m : Int) = ((i % m : Nat) : Int) := by simp
        have hS : bl0.any id = true ↔ Sums (m :: r) i := by
          rw [hbl0, sums_last hpos (by omega), List.any_map, List.any_eq_true]
          constructor
          · rintro ⟨j, hj, hb⟩
            rw [List.mem_range, List.length_map] at hj
            have hb : (decide ((m :: r).getD j 0 ≤ i) && bs.getD (i - (m :: r).getD j 0) false) = true := hb
            rw [Bool.and_eq_true, decide_eq_true_iff] at hb
            have hg : (m :: r).getD j 0 = (m :: r)[j] := by simp [List.getD, List.getElem?_eq_getElem hj]
            rw [hg] at hb
            have hp1 := hpos (m :: r)[j] (List.getElem_mem hj)
            refine ⟨(m :: r)[j], List.getElem_mem hj, hb.1, ?_⟩
            refine (e5 (i - (m :: r)[j]) true (by omega) ?_).mp rfl
            have := hb.2
            have hlt2 : i - (m :: r)[j] < bs.length := by omega
            simp only [List.getD, List.getElem?_eq_getElem hlt2, Option.getD_some] at this
            rw [List.getElem?_eq_getElem hlt2, this]
          · rintro ⟨a, ha, h5, h6⟩
            obtain ⟨j, hj, ea⟩ := List.getElem_of_mem ha
            have hp1 := hpos a ha
            refine ⟨j, List.mem_range.mpr (by rw [List.length_map]; exact hj), ?_⟩
            show (decide ((m :: r).getD j 0 ≤ i) && bs.getD (i - (m :: r).getD j 0) false) = true
            have hg : (m :: r).getD j 0 = a := by rw [← ea]; simp [List.getD, List.getElem?_eq_getElem hj]
            rw [hg, decide_eq_true h5, Bool.true_and]
            have hlt2 : i - a < bs.length := by omega
            have := (e5 (i - a) _ (by omega) (List.getElem?_eq_getElem hlt2)).mpr h6
            simp only [List.getD, List.getElem?_eq_getElem hlt2, Option.getD_some, this]
        generalize bl0.any id = B at hS ⊢
        have hatS : ((bs.map V.bl).set i (V.bl B))[i]? = some (V.bl B) := List.getElem?_set_self hlt
        have hatf : (fv.map oV)[i % m]? = some (oV e) := by rw [List.getElem?_map, g1]; rfl
        have hqf : i % m < (fv.map oV).length := by rw [List.length_map, e4]; exact Nat.mod_lt _ hm0
        have hfp : fd2 ≠ p := hpd.symm
        have e5' : ∀ j b, j < i + 1 ∨ j = 0 → (bs.set i B)[j]? = some b → (b = true ↔ Sums (m :: r) j) := by
          intro j b hj eb
          rw [List.getElem?_set] at eb
          by_cases hji : i = j
          · rw [if_pos hji, if_pos (by omega)] at eb
            subst hji
            rw [← Option.some.inj eb]
            exact hS
          · rw [if_neg hji] at eb
            exact e5 j b (by omega) eb
        have e3' : (bs.set i B).length = m * M + 1 := by rw [List.length_set]; exact e3
        have s5 := same_lst (xs := (bs.map V.bl).set i (V.bl B)) (e7.trans s4) hpf
        cases B with
        | false =>
          have hSi : ¬ Sums (m :: r) i := fun h => by have := hS.mpr h; cases this
          walk_at "rd"
          exact ⟨bs.set i false, fv, _, rfl, by rw [upd_same, List.map_set], by rw [upd_ne hfp]; exact e2', e3', e4, e5', fun q hq => (e6 q hq).imp fun _ h => ⟨h.1, entlt_skip (fun h => hSi h.1) h.2⟩, s5⟩
        | true =>
          have hSi := hS.mp rfl
          cases e with
          | none =>
            walk_at "rd"
            refine ⟨bs.set i true, fv.set (i % m) (some i), _, rfl, by rw [upd_ne hpd, upd_same, List.map_set], by rw [upd_same, List.map_set]; rfl, e3', by rw [List.length_set]; exact e4, e5', ?_, same_lst s5 hff⟩
            intro q hq
            by_cases hqi : i % m = q
            · subst hqi
              exact ⟨some i, by rw [List.getElem?_set_self (by omega)], entlt_new hSi g2⟩
            · obtain ⟨e, k1, k2⟩ := e6 q hq
              exact ⟨e, by rw [List.getElem?_set_ne hqi]; exact k1, entlt_skip (fun h => hqi h.2) k2⟩
          | some t2 =>
            walk_at "rd"
            refine ⟨bs.set i true, fv, _, rfl, by rw [upd_same, List.map_set], by rw [upd_ne hfp]; exact e2', e3', e4, e5', ?_, s5⟩
            intro q hq
            by_cases hqi : i % m = q
            · subst hqi
              exact ⟨some t2, g1, entlt_keep g2⟩
            · obtain ⟨e, k1, k2⟩ := e6 q hq
              exact ⟨e, k1, entlt_skip (fun h => hqi h.2) k2⟩
      · intro hc
        have hc : ¬ (0 : Int) < (i : Int) := hc
        obtain rfl : i = 0 := by omega
        have hzi : ((0 : Nat) : Int) = ((0 : Nat) : Int) := rfl
        have hlt : 0 < bs.length := by omega
        have hb0 : bs[0] = true := (e5 0 _ (.inr rfl) (List.getElem?_eq_getElem hlt)).mpr .zero
        have hatS : (bs.map V.bl)[0]? = some (V.bl true) := by rw [List.getElem?_map, List.getElem?_eq_getElem hlt, hb0]; rfl
        have hatf : (fv.map oV)[0 % m]? = some (oV e) := by rw [List.getElem?_map, g1]; rfl
        have hqf : 0 % m < (fv.map oV).length := by rw [List.length_map, e4]; exact Nat.mod_lt _ hm0
        have hSi : Sums (m :: r) 0 := .zero
        have e5' : ∀ j b, j < 0 + 1 ∨ j = 0 → bs[j]? = some b → (b = true ↔ Sums (m :: r) j) := fun j b hj => e5 j b (by omega)
        cases e with
        | none =>
          walk_at "rd"
          refine ⟨bs, fv.set (0 % m) (some 0), _, rfl, by rw [upd_ne hpd]; exact e1, by rw [upd_same, List.map_set]; rfl, e3, by rw [List.length_set]; exact e4, e5', ?_, same_lst e7 hff⟩
          intro q hq
          by_cases hqi : 0 % m = q
          · subst hqi
            exact ⟨some 0, by rw [List.getElem?_set_self (by rw [e4]; exact Nat.mod_lt _ hm0)], entlt_new hSi g2⟩
          · obtain ⟨e, k1, k2⟩ := e6 q hq
            exact ⟨e, by rw [List.getElem?_set_ne hqi]; exact k1, entlt_skip (fun h => hqi h.2) k2⟩
        | some t2 =>
          walk_at "rd"
          refine ⟨bs, fv, _, rfl, e1, e2, e3, e4, e5', ?_, e7⟩
          intro q hq
          by_cases hqi : 0 % m = q
          · subst hqi
            exact ⟨some t2, g1, entlt_keep g2⟩
          · obtain ⟨e, k1, k2⟩ := e6 q hq
            exact ⟨e, k1, entlt_skip (fun h => hqi h.2) k2⟩
    · rintro σ H2 ⟨bs, fv, x4, rfl, e1, e2, e3, e4, e5, e6, e7⟩
      rw [hn] at e6
      walk_at "rd"
      intro q H3 s3 hq
      refine k q fv H3 (e7.trans s3) hq e4 ?_
      intro r' hr'
      obtain ⟨e, g1, g2⟩ := e6 r' hr'
      refine ⟨e, g1, entlt_end hm1 hpos hMax ?_ g2⟩
      have : (m - 1) * M ≤ m * M := Nat.mul_le_mul_right M (by omega)
      omega
end
end Ov

set_option maxHeartbeats 2000000
namespace Ov
open PySem PySem.Spec PyProof.Rows L2 RZ
local macro_rules | `(tactic| walk_at "hp") => `(tactic| first
  | assumption
  | exact upd_same
  | (apply upd_keep; (focus walk_at "hp"); assumption)
  | (apply upd_keepN; (focus walk_at "hp"); assumption)
  | (apply same_get; (focus assumption); walk_at "hp"))
local macro_rules | `(tactic| walk_at "sq") => `(tactic| first
  | assumption
  | (apply sqL_of; walk_at "hp")
  | (apply sqT_of; walk_at "hp")
  | (apply Same.seq; (focus assumption); walk_at "sq")
  | (apply Same.seqT; (focus assumption); walk_at "sq")
  | (apply Same.seq; (focus (apply same_new; assumption)); walk_at "sq")
  | (apply Same.seqT; (focus (apply same_new; assumption)); walk_at "sq"))
local macro_rules | `(tactic| walk_at "kd") => `(tactic| first
  | assumption
  | exact HasKd.int _
  | exact HasKd.bl _
  | exact HasKd.str _
  | exact HasKd.non
  | (apply HasKd.tup; walk_at "sq")
  | (apply HasKd.lst; walk_at "sq")
  | (apply HasKd.dic; walk_at "hp")
  | (apply HasKd.same; (focus assumption); walk_at "kd"))
local macro_rules | `(tactic| walk_at "sc") => `(tactic| first
  | assumption
  | walk_at "sq"
  | walk_at "kd"
  | (apply at_of; (focus assumption); assumption)
  | (apply atI_nat; assumption)
  | (apply ix_of; (focus assumption); (first | assumption | omega))
  | (apply tyL; walk_at "sq")
  | (apply Rd.of; walk_at "hp")
  | (apply dput_int; (focus walk_at "hp"); (apply lt_line; omega))
  | walk_at "hp"
  | (apply Exists.intro; walk_at "sq")
  | (refine Or.inl ?_; walk_at "sq")
  | (refine Or.inr ?_; walk_at "sq")
  | exact Dp.bl _
  | exact Dp.non
  | exact Dp.int _
  | exact Dp.str _
  | exact dep_bool
  | exact len_bool
  | decide
  | exact ⟨by decide, by decide, by decide⟩
  | (apply lt_line; (first | omega | (simp; done) | (simp; omega)))
  | (apply le_line; (first | omega | (simp; done) | (simp; omega)))
  | omega
  | (refine Or.inl ⟨?_, ?_⟩ <;> omega)
  | (refine Or.inr ⟨?_, ?_⟩ <;> omega)
  | (refine div_ok ?_ ?_ <;> omega))
local macro_rules | `(tactic| walk_at "rd1") => `(tactic| first
  | apply exi
  | (with_reducible apply iteBT; (focus (first | rfl | assumption)))
  | (with_reducible apply iteBF; (focus (first | rfl | assumption)))
  | (apply And.intro; (focus (first | rfl | (walk_at "sc"; done)))))
local macro_rules | `(tactic| walk_at "rd") => `(tactic| repeat walk_at "rd1")
local macro_rules | `(tactic| walk_at "if") => `(tactic| first | refine iteD ?_ ?_ | refine iteN ?_ ?_ | refine ite2 ?_ ?_)
local macro_rules | `(tactic| walk_at "sb") => `(tactic| first
  | assumption
  | exact SameB.refl _ _
  | (refine Same.toB ?_; assumption)
  | (refine SameB.new ?_ (by assumption); walk_at "sb")
  | (refine SameB.updp ?_; walk_at "sb"))
abbrev s_law : Stmt := top 22
abbrev n_law : List Str := ["_law_script", "_law_k", "_law_box_here", "_law_turn", "_law_some"]
theorem sc_law : FnScope n_law ["_law_script"] (defScope s_law) := ⟨rfl, rfl, rfl, by decide +kernel, rfl, by decide +kernel, by decide +kernel⟩
section
variable {P : Program} {w : World} {K : PySem.W.Frag} {mg : Str → Option Value} {base : Heap}

theorem show_lg {lv : List (Option Nat)} {g : Nat} (h : lv.length ≤ 1000) (hb : ∀ n, some n ∈ lv → n < 2 ^ 1000) (hg : g < 2 ^ 1000) :
    (PyData.list [.tuple (lv.map oD), .int (g : Int)]).showable = true ∧ (PyData.list [.tuple (lv.map oD), .int (g : Int)]).depth ≤ 60 ∧ (PyData.list [.tuple (lv.map oD), .int (g : Int)]).shown.length ≤ sizeLine := by
  have s1 : (PyData.list [.tuple (lv.map oD), .int (g : Int)]).showable = true := by
    simp only [PyData.showable, PyData.showableAll, Bool.and_eq_true, Bool.and_true]
    exact ⟨showA_map fun o ho => show_oD fun n e => hb n (e ▸ ho), show_int (by omega)⟩
  have w1 := wtA_map (f := oD) (k := 1) (l := lv) fun o _ => wt_oD
  have s2 := shows (d := PyData.list [.tuple (lv.map oD), .int (g : Int)]) (n := 2) (by
    simp only [plainD, plainA, Bool.and_eq_true, Bool.and_true]
    exact plainA_map fun o _ => plain_oD) (by decide) s1 (by simp only [wt, wtA]; omega)
  exact ⟨s1, s2⟩
theorem eqv_oDs : ∀ lv : List (Option Nat), PyData.eqv (.tuple (lv.map oD)) (.tuple (lv.map oD)) = true := by
  intro lv
  rw [PyData.eqv]
  induction lv with
  | nil => simp [PyData.eqvAll]
  | cons o lv ih =>
    rw [List.map_cons, PyData.eqvAll, ih, Bool.and_true]
    cases o with
    | none => simp [oD, PyData.eqv]
    | some n => simp [oD, PyData.eqv]
theorem ent_small {ls : List Nat} {lv av : List (Option Nat)} (TO : TabOk ls (ls.headD 0) lv av) (hl : LensOk ls) (hle : ∀ x ∈ ls, x ≤ 24) : lv.length ≤ 1000 ∧ (∀ n, some n ∈ lv → n < 2 ^ 1000) ∧ gcdL ls < 2 ^ 1000 := by
  cases ls with
  | nil =>
    have : lv = [] := List.eq_nil_of_length_eq_zero TO.len
    subst this
    exact ⟨Nat.zero_le _, fun n h => absurd h List.not_mem_nil, Nat.pow_pos (by decide)⟩
  | cons m r =>
    have hm := hle m (List.mem_cons_self ..)
    have hm1 := (hl.2.1 m (List.mem_cons_self ..)).1
    have h24 : (600 : Nat) < 2 ^ 1000 := Nat.lt_of_lt_of_le (show 600 < 2 ^ 10 by decide) (Nat.pow_le_pow_right (by decide) (by decide))
    refine ⟨by have := TO.len; rw [this]; show m ≤ 1000; omega, fun n hn => ?_, ?_⟩
    · obtain ⟨j, hj, ej⟩ := List.getElem_of_mem hn
      have hjm : j < m := by have := TO.len; rw [this] at hj; exact hj
      obtain ⟨e, g1, g2⟩ := TO.ent j hjm
      rw [List.getElem?_eq_getElem hj, ej] at g1
      cases g1
      have := least_bound (m := m) hm1 (fun x hx => (hl.2.1 x hx).1) hle g2
      have h2 : (m - 1) * 24 ≤ 23 * 24 := Nat.mul_le_mul_right 24 (by omega)
      omega
    · have := Nat.le_of_dvd hm1 (gcdL_dvd (ls := m :: r) (List.mem_cons_self ..))
      omega
def kwOne (us ws : List Value) : List Value := match us, ws with | [], [a] => [a] | _, _ => []
def kwOneV (us ws : List V) : List V := match us, ws with | [], [a] => [a] | _, _ => []
theorem body_law {f : Addr} (T : Blt mg) (g_box : Cal P w K mg base CX0 1 "_law_box" ["_law_script", "_law_k"] (spBox K))
    (g_drawn : Cal P w K mg base CX0 3 "_law_drawn" ["_law_box_here"] (spDrawn K 24 6)) (g_lleast : Cal P w K mg base CX0 1 "_law_least" ["_law_some"] (spLeast2 K)) (g_ldiv : Cal P w K mg base CX0 1 "_law_divisor" ["_law_some"] (spDiv2 K))
    (g_ls : Cal P w K mg base CX0 5 "least_sums" ["lengths"] (spLeast K)) (g_cd : Cal P w K mg base CX0 3 "common_divisor" ["lengths"] (spGcdL K))
    (k_ls : CalK P w K mg base CX0 5 "least_sums" ["lengths"] ["lengths"] kwOne kwOneV (spLeast K)) (k_cd : CalK P w K mg base CX0 3 "common_divisor" ["lengths"] ["lengths"] kwOne kwOneV (spGcdL K)) :
    Body P w K mg base 29 "law" s_law f n_law (spLaw K) := by
  intro cdv A outer s H vs Q E hr h
  obtain ⟨a, ns, rfl, hO, ha, hlen, k⟩ := h
  refine ⟨_, (pss_cons (ps_for PassesOwn.never rfl (pi_range1 (by rfl) T.b_range (pa_cons (pe_op op_add pe_int (pe_callB (call_min2 rfl) (by rfl) T.b_min (by decide +kernel) (pa_cons pe_int (pa_cons (pe_callB (k_len K) (by rfl) T.b_len PySem.boot_len (pa_cons (pv 0) pa_nil)) pa_nil)))) pa_nil)) (pg_name (i := 1) sc_law.nd rfl (Or.inl rfl)) (pss_cons (ps_set (i := 2) sc_law.nd rfl (Or.inl rfl) (pc g_box hr (pa_cons (pv 0) (pa_cons (pv 1) pa_nil))))
      (pss_cons (ps_for PassesOwn.never rfl (pi_range1 (by rfl) T.b_range (pa_cons pe_int pa_nil)) (pg_name (i := 3) sc_law.nd rfl (Or.inl rfl)) (pss_cons (ps_set (i := 4) sc_law.nd rfl (Or.inl rfl) (pc g_drawn hr (pa_cons (pv 2) pa_nil)))
      (pss_one (ps_if (pt_cmpR op_ne (pe_callB (k_repr K hr.g hr.r.units) (by rfl) T.b_repr (by decide +kernel) (pa_cons (pe_lst (pa_cons (pc g_ls hr (pa_cons (pv 4) pa_nil)) (pa_cons (pc g_cd hr (pa_cons (pv 4) pa_nil)) pa_nil))) pa_nil)) (pe_callB (k_repr K hr.g hr.r.units) (by rfl) T.b_repr (by decide +kernel) (pa_cons (pe_lst (pa_cons (pc g_lleast hr (pa_cons (pv 4) pa_nil)) (pa_cons (pc g_ldiv hr (pa_cons (pv 4) pa_nil)) pa_nil))) pa_nil)) (nomark _)) (pss_one (ps_ret pe_bl)) pss_nil))))
      (pss_one (ps_if (PW.pt (pw_or (pt_cmpR (k_neD K hr.r.units) (pck k_ls hr (pk_cons (pv 4) pk_nil)) (pc g_ls hr (pa_cons (pv 4) pa_nil)) (nomark _)) (pw_or1 (pt_cmpR op_ne (pck k_cd hr (pk_cons (pv 4) pk_nil)) (pc g_cd hr (pa_cons (pv 4) pa_nil)) (nomark _))))) (pss_one (ps_ret pe_bl)) pss_nil)))))
      (pss_one (ps_ret pe_bl))), ?_⟩
  walk_at "rd"
  have hn : ((1 : Int) + (if ((ns.map V.int).length : Int) < 3 then ((ns.map V.int).length : Int) else 3)).toNat ≤ 4 := by split <;> omega
  refine for_it (walk_upto (n := ((1 : Int) + (if ((ns.map V.int).length : Int) < 3 then ((ns.map V.int).length : Int) else 3)).toNat)) (fun i σ H' => Hold (∃ (x1 x2 x3 x4 : Option V), σ = [some (.ref a), x1, x2, x3, x4] ∧ Same H H')) ?_ (fun _ _ _ _ _ => trivial) ?_ ?_
  · exact ⟨_, _, _, _, rfl, Same.refl H⟩
  · rintro i x σ H1 H1' hi ⟨x1, x2, x3, x4, rfl, s0⟩ y
    obtain ⟨rfl, rfl⟩ := y
    have hi2 : i ≤ 100 := by omega
    have ha1 := s0.seq ha
    walk_at "rd"
    intro b H2 hbf hb2 s2
    have hbH : H b = none := s0.free hbf
    walk_at "rd"
    refine for_it (walk_upto (n := Int.toNat 4)) (fun j σ H' => Hold (∃ (x3 x4 : Option V), σ = [some (.ref a), some (nV i), some (.ref b), x3, x4] ∧ BoxAt H' b (20 * j) ∧ Same H H' ∧
        (0 < j → ∃ t ls, x4 = some (.ref t) ∧ SqT K H' t (ls.map nV) ∧ LensOk ls))) ?_ (fun _ _ _ _ _ => trivial) ?_ ?_
    · exact ⟨_, _, rfl, hb2, s0.trans s2, fun h => absurd h (Nat.lt_irrefl 0)⟩
    · rintro j x σ H3 H3' hj ⟨x3, x4, rfl, e1, e2, _⟩ y
      obtain ⟨rfl, rfl⟩ := y
      have hj3 : j < 4 := hj
      have hN : 20 * j ≤ 2 ^ 59 := by omega
      walk_at "rd"
      intro t ls H4 ht hl hlen hle hb4 sb4
      have s4 : Same H H4 := fun q o h => sb4 q o (ne_of_none h hbH) (e2 q o h)
      walk_at "rd"
      intro q lv av H5 s5 hq TO
      have ht5 := Same.seqT s5 ht
      obtain ⟨b1, b2, b3⟩ := ent_small TO hl hle
      obtain ⟨v1, v2, v3⟩ := show_lg b1 b2 b3
      walk_at "rd"
      intro H6 s6
      walk_at "rd"
      intro p hp
      walk_at "rd"
      refine ⟨.lst (sqL_of upd_same) (.cons (.tup (Same.seqT (s6.trans (same_new hp)) hq) dpAll_oV) (.cons (.int _) .nil)), v1, v2, v3, ?_⟩
      have s7 : Same H4 (upd H6 p (.lst [V.ref q, V.int (gcdL ls : Int)])) := (s5.trans s6).trans (same_new hp)
      generalize (upd H6 p (.lst [V.ref q, V.int (gcdL ls : Int)])) = H7 at s7 ⊢
      have ht7 := Same.seqT s7 ht
      walk_at "rd"
      intro q2 lw H8 s8 hq2 hlw eOk
      have := tab_unique TO.len hlw TO.ent eOk
      subst this
      have ht8 := Same.seqT s8 ht7
      walk_at "rd"
      intro H9 s9
      walk_at "rd"
      intro p2 hp2
      walk_at "rd"
      refine ⟨.lst (sqL_of upd_same) (.cons (.tup (Same.seqT (s9.trans (same_new hp2)) hq2) dpAll_oV) (.cons (.int _) .nil)), v1, v2, v3, ?_⟩
      have s10 : Same H4 (upd H9 p2 (.lst [V.ref q2, V.int (gcdL ls : Int)])) := ((s7.trans s8).trans s9).trans (same_new hp2)
      generalize (upd H9 p2 (.lst [V.ref q2, V.int (gcdL ls : Int)])) = H10 at s10 ⊢
      walk_at "rd"
      walk_at "if"
      · intro hne
        exact absurd rfl hne
      · intro _
        walk_at "rd"
        exact ⟨_, _, rfl, hb4.same s10, s4.trans s10, fun _ => ⟨t, ls, rfl, Same.seqT s10 ht, hl⟩⟩
    · rintro σ H3 ⟨x3, x4, rfl, e1, e2, e3⟩
      obtain ⟨t, ls, rfl, ht, hl⟩ := e3 (by decide)
      walk_at "rd"
      intro q lv av H4 s4 hq TO
      have ht4 := Same.seqT s4 ht
      walk_at "rd"
      intro q2 lw aw H5 s5 hq2 TO2
      have := tab_unique TO.len TO2.len TO.ent TO2.ent
      subst this
      have sh : SeqAt.shaped (.tuple (lv.map oD)) = true := shaped_of (n := 1) (by simp only [plainD]; exact plainA_map fun o _ => plain_oD) (by decide)
      refine ⟨_, _, .tup (Same.seqT s5 hq) dpAll_oV, .tup hq2 dpAll_oV, sh, sh, ?_⟩
      rw [eqv_oDs]
      have ht5 := Same.seqT s5 ht4
      walk_at "rd"
      intro H6 s6
      have ht6 := Same.seqT s6 ht5
      walk_at "rd"
      intro H7 s7
      walk_at "rd"
      walk_at "if"
      · intro hne
        exact absurd rfl hne
      · intro _
        walk_at "rd"
        exact ⟨_, _, _, _, rfl, (((e2.trans s4).trans s5).trans s6).trans s7⟩
  · rintro σ H' ⟨x1, x2, x3, x4, rfl, s0⟩
    walk_at "rd"
    exact k H'
end
end Ov

set_option maxHeartbeats 2000000
namespace Ov
open PySem PySem.Spec PyProof.Rows L2 RZ
theorem all_mk {l : PySem.W.OpenLaw} {w : World} {K : PySem.W.Frag} {h : Heap} {mg : Str → Option Value} {fa : Addr} (X : K.In h) (G : h.Ns mainGlobals mg) (hfa : mg "law" = some (.ref fa))
    {f0 : Addr} {od0 an0 : Option Addr} {sl0 : Array (Option Value)} {oc0 kV0 dc0 pm0 cd0 ct0 : Value}
    {f1 : Addr} {od1 an1 : Option Addr} {sl1 : Array (Option Value)} {oc1 kV1 dc1 pm1 cd1 ct1 : Value}
    {f2 : Addr} {od2 an2 : Option Addr} {sl2 : Array (Option Value)} {oc2 kV2 dc2 pm2 cd2 ct2 : Value}
    {f3 : Addr} {od3 an3 : Option Addr} {sl3 : Array (Option Value)} {oc3 kV3 dc3 pm3 cd3 ct3 : Value}
    {f4 : Addr} {od4 an4 : Option Addr} {sl4 : Array (Option Value)} {oc4 kV4 dc4 pm4 cd4 ct4 : Value}
    {f5 : Addr} {od5 an5 : Option Addr} {sl5 : Array (Option Value)} {oc5 kV5 dc5 pm5 cd5 ct5 : Value}
    {f6 : Addr} {od6 an6 : Option Addr} {sl6 : Array (Option Value)} {oc6 kV6 dc6 pm6 cd6 ct6 : Value}
    {f7 : Addr} {od7 an7 : Option Addr} {sl7 : Array (Option Value)} {oc7 kV7 dc7 pm7 cd7 ct7 : Value}
    {f8 : Addr} {od8 an8 : Option Addr} {sl8 : Array (Option Value)} {oc8 kV8 dc8 pm8 cd8 ct8 : Value}
    {f9 : Addr} {od9 an9 : Option Addr} {sl9 : Array (Option Value)} {oc9 kV9 dc9 pm9 cd9 ct9 : Value}
    {f10 : Addr} {od10 an10 : Option Addr} {sl10 : Array (Option Value)} {oc10 kV10 dc10 pm10 cd10 ct10 : Value}
    {f11 : Addr} {od11 an11 : Option Addr} {sl11 : Array (Option Value)} {oc11 kV11 dc11 pm11 cd11 ct11 : Value}
    {f12 : Addr} {od12 an12 : Option Addr} {sl12 : Array (Option Value)} {oc12 kV12 dc12 pm12 cd12 ct12 : Value}
    {CS : Addr}
    {fSm0 : Addr} {odSm0 anSm0 : Option Addr} {slSm0 : Array (Option Value)} {ocSm0 kVSm0 dcSm0 pmSm0 cdSm0 ctSm0 : Value}
    {fSm1 : Addr} {odSm1 anSm1 : Option Addr} {slSm1 : Array (Option Value)} {ocSm1 kVSm1 dcSm1 pmSm1 cdSm1 ctSm1 : Value}
    {fSm2 : Addr} {odSm2 anSm2 : Option Addr} {slSm2 : Array (Option Value)} {ocSm2 kVSm2 dcSm2 pmSm2 cdSm2 ctSm2 : Value}
    {v_LONGEST : Value}
    {v_MOST_LENGTHS : Value}
    (a0 : PySem.W.nsIn K mainGlobals "is_integer" = some (some (.ref f0)))
    (l0 : K.lookup f0 = some ⟨oc0, od0, .func (PySem.W.fnOf "is_integer" "is_integer" (defArgs s_is_integer) (defBody s_is_integer) (defScope s_is_integer) .none kV0 dc0 pm0 an0 cd0 ct0), sl0⟩)
    (c0 : PySem.W.codeIn K cd0 "is_integer" = true)
    (k0 : PySem.W.keepIn K (.ref f0) = true)
    (a1 : PySem.W.nsIn K mainGlobals "is_ascending" = some (some (.ref f1)))
    (l1 : K.lookup f1 = some ⟨oc1, od1, .func (PySem.W.fnOf "is_ascending" "is_ascending" (defArgs s_is_ascending) (defBody s_is_ascending) (defScope s_is_ascending) .none kV1 dc1 pm1 an1 cd1 ct1), sl1⟩)
    (c1 : PySem.W.codeIn K cd1 "is_ascending" = true)
    (k1 : PySem.W.keepIn K (.ref f1) = true)
    (a2 : PySem.W.nsIn K mainGlobals "check_lengths" = some (some (.ref f2)))
    (l2 : K.lookup f2 = some ⟨oc2, od2, .func (PySem.W.fnOf "check_lengths" "check_lengths" (defArgs s_check_lengths) (defBody s_check_lengths) (defScope s_check_lengths) .none kV2 dc2 pm2 an2 cd2 ct2), sl2⟩)
    (c2 : PySem.W.codeIn K cd2 "check_lengths" = true)
    (k2 : PySem.W.keepIn K (.ref f2) = true)
    (a3 : PySem.W.nsIn K mainGlobals "greatest_divisor" = some (some (.ref f3)))
    (l3 : K.lookup f3 = some ⟨oc3, od3, .func (PySem.W.fnOf "greatest_divisor" "greatest_divisor" (defArgs s_greatest_divisor) (defBody s_greatest_divisor) (defScope s_greatest_divisor) .none kV3 dc3 pm3 an3 cd3 ct3), sl3⟩)
    (c3 : PySem.W.codeIn K cd3 "greatest_divisor" = true)
    (k3 : PySem.W.keepIn K (.ref f3) = true)
    (a4 : PySem.W.nsIn K mainGlobals "common_divisor" = some (some (.ref f4)))
    (l4 : K.lookup f4 = some ⟨oc4, od4, .func (PySem.W.fnOf "common_divisor" "common_divisor" (defArgs s_common_divisor) (defBody s_common_divisor) (defScope s_common_divisor) .none kV4 dc4 pm4 an4 cd4 ct4), sl4⟩)
    (c4 : PySem.W.codeIn K cd4 "common_divisor" = true)
    (k4 : PySem.W.keepIn K (.ref f4) = true)
    (a5 : PySem.W.nsIn K mainGlobals "least_sums" = some (some (.ref f5)))
    (l5 : K.lookup f5 = some ⟨oc5, od5, .func (PySem.W.fnOf "least_sums" "least_sums" (defArgs s_least_sums) (defBody s_least_sums) (defScope s_least_sums) .none kV5 dc5 pm5 an5 cd5 ct5), sl5⟩)
    (c5 : PySem.W.codeIn K cd5 "least_sums" = true)
    (k5 : PySem.W.keepIn K (.ref f5) = true)
    (a6 : PySem.W.nsIn K mainGlobals "_law_box" = some (some (.ref f6)))
    (l6 : K.lookup f6 = some ⟨oc6, od6, .func (PySem.W.fnOf "_law_box" "_law_box" (defArgs s_l_box) (defBody s_l_box) (defScope s_l_box) .none kV6 dc6 pm6 an6 cd6 ct6), sl6⟩)
    (c6 : PySem.W.codeIn K cd6 "_law_box" = true)
    (k6 : PySem.W.keepIn K (.ref f6) = true)
    (a7 : PySem.W.nsIn K mainGlobals "_law_take" = some (some (.ref f7)))
    (l7 : K.lookup f7 = some ⟨oc7, od7, .func (PySem.W.fnOf "_law_take" "_law_take" (defArgs s_l_take) (defBody s_l_take) (defScope s_l_take) .none kV7 dc7 pm7 an7 cd7 ct7), sl7⟩)
    (c7 : PySem.W.codeIn K cd7 "_law_take" = true)
    (k7 : PySem.W.keepIn K (.ref f7) = true)
    (a8 : PySem.W.nsIn K mainGlobals "_law_of" = some (some (.ref f8)))
    (l8 : K.lookup f8 = some ⟨oc8, od8, .func (PySem.W.fnOf "_law_of" "_law_of" (defArgs s_l_of) (defBody s_l_of) (defScope s_l_of) .none kV8 dc8 pm8 an8 cd8 ct8), sl8⟩)
    (c8 : PySem.W.codeIn K cd8 "_law_of" = true)
    (k8 : PySem.W.keepIn K (.ref f8) = true)
    (a9 : PySem.W.nsIn K mainGlobals "_law_drawn" = some (some (.ref f9)))
    (l9 : K.lookup f9 = some ⟨oc9, od9, .func (PySem.W.fnOf "_law_drawn" "_law_drawn" (defArgs s_l_drawn) (defBody s_l_drawn) (defScope s_l_drawn) .none kV9 dc9 pm9 an9 cd9 ct9), sl9⟩)
    (c9 : PySem.W.codeIn K cd9 "_law_drawn" = true)
    (k9 : PySem.W.keepIn K (.ref f9) = true)
    (a10 : PySem.W.nsIn K mainGlobals "_law_least" = some (some (.ref f10)))
    (l10 : K.lookup f10 = some ⟨oc10, od10, .func (PySem.W.fnOf "_law_least" "_law_least" (defArgs s_l_least) (defBody s_l_least) (defScope s_l_least) .none kV10 dc10 pm10 an10 cd10 ct10), sl10⟩)
    (c10 : PySem.W.codeIn K cd10 "_law_least" = true)
    (k10 : PySem.W.keepIn K (.ref f10) = true)
    (a11 : PySem.W.nsIn K mainGlobals "_law_divisor" = some (some (.ref f11)))
    (l11 : K.lookup f11 = some ⟨oc11, od11, .func (PySem.W.fnOf "_law_divisor" "_law_divisor" (defArgs s_l_divisor) (defBody s_l_divisor) (defScope s_l_divisor) .none kV11 dc11 pm11 an11 cd11 ct11), sl11⟩)
    (c11 : PySem.W.codeIn K cd11 "_law_divisor" = true)
    (k11 : PySem.W.keepIn K (.ref f11) = true)
    (a12 : PySem.W.nsIn K mainGlobals "law" = some (some (.ref f12)))
    (l12 : K.lookup f12 = some ⟨oc12, od12, .func (PySem.W.fnOf "law" "law" (defArgs s_law) (defBody s_law) (defScope s_law) .none kV12 dc12 pm12 an12 cd12 ct12), sl12⟩)
    (c12 : PySem.W.codeIn K cd12 "law" = true)
    (k12 : PySem.W.keepIn K (.ref f12) = true)
    (gCS : PySem.W.nsIn K mainGlobals "SumTable" = some (some (.ref CS)))
    (pgCS : PySem.W.plainGet K CS Str.empty = true)
    (hdCS : PySem.W.hasDictIn K CS = true)
    (poCS : PySem.W.plainOver K CS = true)
    (saCS : PySem.W.findIn K (.ref CS) "__setattr__" = some (some (.builtin "object.__setattr__")))
    (mkCS : PySem.W.makesIn K CS = true)
    (kcCS : PySem.W.keepIn K (.ref CS) = true)
    (nCSmodulus : PySem.W.findIn K (.ref CS) "modulus" = some none)
    (nCSleast : PySem.W.findIn K (.ref CS) "least" = some none)
    (nCSadded : PySem.W.findIn K (.ref CS) "added" = some none)
    (aSm0 : PySem.W.findIn K (.ref CS) "__init__" = some (some (.ref fSm0)))
    (iSm0 : PySem.W.isFn K (.ref fSm0) = true)
    (lSm0 : K.lookup fSm0 = some ⟨ocSm0, odSm0, .func (PySem.W.fnOf "__init__" "SumTable.__init__" (defArgs s_SumTable_init) (defBody s_SumTable_init) (defScope s_SumTable_init) .none kVSm0 dcSm0 pmSm0 anSm0 cdSm0 ctSm0), slSm0⟩)
    (cSm0 : PySem.W.codeIn K cdSm0 "SumTable.__init__" = true)
    (kSm0 : PySem.W.keepIn K (.ref fSm0) = true)
    (aSm1 : PySem.W.findIn K (.ref CS) "add_length" = some (some (.ref fSm1)))
    (iSm1 : PySem.W.isFn K (.ref fSm1) = true)
    (lSm1 : K.lookup fSm1 = some ⟨ocSm1, odSm1, .func (PySem.W.fnOf "add_length" "SumTable.add_length" (defArgs s_SumTable_add_length) (defBody s_SumTable_add_length) (defScope s_SumTable_add_length) .none kVSm1 dcSm1 pmSm1 anSm1 cdSm1 ctSm1), slSm1⟩)
    (cSm1 : PySem.W.codeIn K cdSm1 "SumTable.add_length" = true)
    (kSm1 : PySem.W.keepIn K (.ref fSm1) = true)
    (aSm2 : PySem.W.findIn K (.ref CS) "go_round" = some (some (.ref fSm2)))
    (iSm2 : PySem.W.isFn K (.ref fSm2) = true)
    (lSm2 : K.lookup fSm2 = some ⟨ocSm2, odSm2, .func (PySem.W.fnOf "go_round" "SumTable.go_round" (defArgs s_SumTable_go_round) (defBody s_SumTable_go_round) (defScope s_SumTable_go_round) .none kVSm2 dcSm2 pmSm2 anSm2 cdSm2 ctSm2), slSm2⟩)
    (cSm2 : PySem.W.codeIn K cdSm2 "SumTable.go_round" = true)
    (kSm2 : PySem.W.keepIn K (.ref fSm2) = true)
    (q_LONGEST : PySem.W.nsIn K mainGlobals "LONGEST" = some (some v_LONGEST))
    (r_LONGEST : L2.RelV (.int 1000) v_LONGEST)
    (q_MOST_LENGTHS : PySem.W.nsIn K mainGlobals "MOST_LENGTHS" = some (some v_MOST_LENGTHS))
    (r_MOST_LENGTHS : L2.RelV (.int 50) v_MOST_LENGTHS)
    (b_len : PySem.W.nsIn K mainGlobals "len" = some none)
    (b_abs : PySem.W.nsIn K mainGlobals "abs" = some none)
    (b_int : PySem.W.nsIn K mainGlobals "int" = some none)
    (b_bool : PySem.W.nsIn K mainGlobals "bool" = some none)
    (b_str : PySem.W.nsIn K mainGlobals "str" = some none)
    (b_tuple : PySem.W.nsIn K mainGlobals "tuple" = some none)
    (b_list : PySem.W.nsIn K mainGlobals "list" = some none)
    (b_dict : PySem.W.nsIn K mainGlobals "dict" = some none)
    (b_set : PySem.W.nsIn K mainGlobals "set" = some none)
    (b_range : PySem.W.nsIn K mainGlobals "range" = some none)
    (b_zip : PySem.W.nsIn K mainGlobals "zip" = some none)
    (b_enumerate : PySem.W.nsIn K mainGlobals "enumerate" = some none)
    (b_all : PySem.W.nsIn K mainGlobals "all" = some none)
    (b_any : PySem.W.nsIn K mainGlobals "any" = some none)
    (b_sum : PySem.W.nsIn K mainGlobals "sum" = some none)
    (b_min : PySem.W.nsIn K mainGlobals "min" = some none)
    (b_max : PySem.W.nsIn K mainGlobals "max" = some none)
    (b_sorted : PySem.W.nsIn K mainGlobals "sorted" = some none)
    (b_repr : PySem.W.nsIn K mainGlobals "repr" = some none)
    (b_isinstance : PySem.W.nsIn K mainGlobals "isinstance" = some none)
    : ∃ fd : FuncData, (∀ (s : Shared) (v : Value), BindsTo s fd ⟨[v], []⟩ [("_law_script", v)]) ∧
      ∀ base : Heap, K.In base → base.Ns mainGlobals mg → FnG l.prog w K mg base CX0 30 fa fd ["_law_script"] (spLaw K) := by
  have e := hfa.symm.trans (PySem.W.mg_of X G a12)
  cases e
  have A_is_integer : At K mg "is_integer" s_is_integer _ _ := ⟨fun_mk (st := s_is_integer) l0 c0 k0, PySem.W.mg_of X G a0⟩
  have A_is_ascending : At K mg "is_ascending" s_is_ascending _ _ := ⟨fun_mk (st := s_is_ascending) l1 c1 k1, PySem.W.mg_of X G a1⟩
  have A_check_lengths : At K mg "check_lengths" s_check_lengths _ _ := ⟨fun_mk (st := s_check_lengths) l2 c2 k2, PySem.W.mg_of X G a2⟩
  have A_greatest_divisor : At K mg "greatest_divisor" s_greatest_divisor _ _ := ⟨fun_mk (st := s_greatest_divisor) l3 c3 k3, PySem.W.mg_of X G a3⟩
  have A_common_divisor : At K mg "common_divisor" s_common_divisor _ _ := ⟨fun_mk (st := s_common_divisor) l4 c4 k4, PySem.W.mg_of X G a4⟩
  have A_least_sums : At K mg "least_sums" s_least_sums _ _ := ⟨fun_mk (st := s_least_sums) l5 c5 k5, PySem.W.mg_of X G a5⟩
  have A__law_box : At K mg "_law_box" s_l_box _ _ := ⟨fun_mk (st := s_l_box) l6 c6 k6, PySem.W.mg_of X G a6⟩
  have A__law_take : At K mg "_law_take" s_l_take _ _ := ⟨fun_mk (st := s_l_take) l7 c7 k7, PySem.W.mg_of X G a7⟩
  have A__law_of : At K mg "_law_of" s_l_of _ _ := ⟨fun_mk (st := s_l_of) l8 c8 k8, PySem.W.mg_of X G a8⟩
  have A__law_drawn : At K mg "_law_drawn" s_l_drawn _ _ := ⟨fun_mk (st := s_l_drawn) l9 c9 k9, PySem.W.mg_of X G a9⟩
  have A__law_least : At K mg "_law_least" s_l_least _ _ := ⟨fun_mk (st := s_l_least) l10 c10 k10, PySem.W.mg_of X G a10⟩
  have A__law_divisor : At K mg "_law_divisor" s_l_divisor _ _ := ⟨fun_mk (st := s_l_divisor) l11 c11 k11, PySem.W.mg_of X G a11⟩
  have A_law : At K mg "law" s_law _ _ := ⟨fun_mk (st := s_law) l12 c12 k12, PySem.W.mg_of X G a12⟩
  have clCS : Cls K CS := ⟨pgCS, hdCS, poCS, saCS⟩
  have F_SumTable___init__ := fun_mk (st := s_SumTable_init) lSm0 cSm0 kSm0
  have M_SumTable___init__ : Meth K CS "__init__" _ := ⟨aSm0, iSm0, kSm0⟩
  have K_SumTable : Mk K CS _ := ⟨mkCS, aSm0, iSm0, kcCS⟩
  have F_SumTable_add_length := fun_mk (st := s_SumTable_add_length) lSm1 cSm1 kSm1
  have M_SumTable_add_length : Meth K CS "add_length" _ := ⟨aSm1, iSm1, kSm1⟩
  have F_SumTable_go_round := fun_mk (st := s_SumTable_go_round) lSm2 cSm2 kSm2
  have M_SumTable_go_round : Meth K CS "go_round" _ := ⟨aSm2, iSm2, kSm2⟩
  have c_LONGEST : ∃ u, mg "LONGEST" = some u ∧ L2.RelV (.int 1000) u := ⟨_, PySem.W.mg_of X G q_LONGEST, r_LONGEST⟩
  have c_MOST_LENGTHS : ∃ u, mg "MOST_LENGTHS" = some u ∧ L2.RelV (.int 50) u := ⟨_, PySem.W.mg_of X G q_MOST_LENGTHS, r_MOST_LENGTHS⟩
  have T : Blt mg := ⟨PySem.W.mg_none_of X G b_len, PySem.W.mg_none_of X G b_abs, PySem.W.mg_none_of X G b_int, PySem.W.mg_none_of X G b_bool, PySem.W.mg_none_of X G b_str, PySem.W.mg_none_of X G b_tuple, PySem.W.mg_none_of X G b_list, PySem.W.mg_none_of X G b_dict, PySem.W.mg_none_of X G b_set, PySem.W.mg_none_of X G b_range, PySem.W.mg_none_of X G b_zip, PySem.W.mg_none_of X G b_enumerate, PySem.W.mg_none_of X G b_all, PySem.W.mg_none_of X G b_any, PySem.W.mg_none_of X G b_sum, PySem.W.mg_none_of X G b_min, PySem.W.mg_none_of X G b_max, PySem.W.mg_none_of X G b_sorted, PySem.W.mg_none_of X G b_repr, PySem.W.mg_none_of X G b_isinstance⟩
  refine ⟨PySem.W.fnOf "law" "law" (defArgs s_law) (defBody s_law) (defScope s_law) .none kV12 dc12 pm12 an12 cd12 ct12, fun s v => .of_eq rfl, fun base _ _ => ?_⟩
  ·
    have g_is_integer := ok_is_integer (P := l.prog) (w := w) (base := base) A_is_integer T
    have g_is_ascending := ok_is_ascending (P := l.prog) (w := w) (base := base) A_is_ascending T
    have g_check := ok_check_lengths A_check_lengths T c_MOST_LENGTHS c_LONGEST g_is_integer g_is_ascending
    have g_gcd := ok_greatest_divisor (P := l.prog) (w := w) (base := base) A_greatest_divisor T
    have tx : TabTxt K mg CS := ⟨clCS, nCSmodulus, nCSleast, nCSadded⟩
    have g_round := ok_go_round (P := l.prog) (w := w) (base := base) F_SumTable_go_round M_SumTable_go_round T tx
    have g_add := ok_add_length F_SumTable_add_length M_SumTable_add_length T tx g_gcd g_round
    have g_tab := ok_SumTable F_SumTable___init__ K_SumTable (PySem.W.mg_of X G gCS) T tx g_add
    have g_ls := ok_least_sums A_least_sums T tx g_check g_tab
    have g_cd := ok_common_divisor A_common_divisor T g_check g_gcd
    have k_ls : CalK l.prog w K mg base CX0 5 "least_sums" ["lengths"] ["lengths"] kwOne kwOneV (spLeast K) := by
      refine g_ls.kw A_least_sums ?_ ?_
      · intro kV doc pm an cdv ct us ws hl
        match us, ws, hl with
        | [], [_], _ => rfl
      · intro vs us zs ws r1 r2
        match vs, us, zs, ws, r1, r2 with
        | [], [], [_], [_], _, .cons a .nil => exact .cons a .nil
        | [], [], [], [], _, _ => exact .nil
        | [], [], _ :: _ :: _, _ :: _ :: _, _, _ => exact .nil
        | _ :: _, _ :: _, _, _, _, _ => exact .nil
    have k_cd : CalK l.prog w K mg base CX0 3 "common_divisor" ["lengths"] ["lengths"] kwOne kwOneV (spGcdL K) := by
      refine g_cd.kw A_common_divisor ?_ ?_
      · intro kV doc pm an cdv ct us ws hl
        match us, ws, hl with
        | [], [_], _ => rfl
      · intro vs us zs ws r1 r2
        match vs, us, zs, ws, r1, r2 with
        | [], [], [_], [_], _, .cons a .nil => exact .cons a .nil
        | [], [], [], [], _, _ => exact .nil
        | [], [], _ :: _ :: _, _ :: _ :: _, _, _ => exact .nil
        | _ :: _, _ :: _, _, _, _, _ => exact .nil
    have g_take := ok_take (P := l.prog) (w := w) (base := base) A__law_take T
    have g_box := ok_box (P := l.prog) (w := w) (base := base) A__law_box T
    have g_of := ok_of A__law_of T g_take
    have g_drawn := ok_drawn A__law_drawn T g_take g_of
    have g_lleast := ok_lleast (P := l.prog) (w := w) (base := base) A__law_least T
    have g_ldiv := ok_ldivisor (P := l.prog) (w := w) (base := base) A__law_divisor T
    refine fnG_mk A_law.fn sc_law ?_ (body_law T g_box g_drawn g_lleast g_ldiv g_ls g_cd k_ls k_cd)
    intro vs H Q E h
    obtain ⟨_, _, rfl, _⟩ := h
    rfl
end Ov
open PySem PySem.W PyProof.Rows
set_option maxRecDepth 100000 in
set_option maxHeartbeats 0 in
theorem PySem.Challenge.cw_overlapcode_k07_least_sums_by_plain_addi_holds : PySem.Challenge.rw_overlapcode_k07_least_sums_by_plain_addi.Holds := by
  w_on; o_law; k_head; (case hw => w_witness2)
  k_fill
  refine Ov.walkG (l := PySem.Challenge.rw_overlapcode_k07_least_sums_by_plain_addi) (x := "_law_script") rfl rfl (fun w h Y => PySem.W.kIn_of Y) ?F
  case F =>
    intro w mg fa h KX G hmg
    refine' Ov.all_mk KX G hmg ?a0 ?l0 ?c0 ?k0 ?a1 ?l1 ?c1 ?k1 ?a2 ?l2 ?c2 ?k2 ?a3 ?l3 ?c3 ?k3 ?a4 ?l4 ?c4 ?k4 ?a5 ?l5 ?c5 ?k5 ?a6 ?l6 ?c6 ?k6 ?a7 ?l7 ?c7 ?k7 ?a8 ?l8 ?c8 ?k8 ?a9 ?l9 ?c9 ?k9 ?a10 ?l10 ?c10 ?k10 ?a11 ?l11 ?c11 ?k11 ?a12 ?l12 ?c12 ?k12 ?gCS ?pgCS ?hdCS ?poCS ?saCS ?mkCS ?kcCS ?nCSmodulus ?nCSleast ?nCSadded ?aSm0 ?iSm0 ?lSm0 ?cSm0 ?kSm0 ?aSm1 ?iSm1 ?lSm1 ?cSm1 ?kSm1 ?aSm2 ?iSm2 ?lSm2 ?cSm2 ?kSm2 ?q_LONGEST ?r_LONGEST ?q_MOST_LENGTHS ?r_MOST_LENGTHS ?b_len ?b_abs ?b_int ?b_bool ?b_str ?b_tuple ?b_list ?b_dict ?b_set ?b_range ?b_zip ?b_enumerate ?b_all ?b_any ?b_sum ?b_min ?b_max ?b_sorted ?b_repr ?b_isinstance
    (case a0 => k_is)
    (case l0 => k_is)
    (case c0 => k_is)
    (case k0 => k_is)
    (case a1 => k_is)
    (case l1 => k_is)
    (case c1 => k_is)
    (case k1 => k_is)
    (case a2 => k_is)
    (case l2 => k_is)
    (case c2 => k_is)
    (case k2 => k_is)
    (case a3 => k_is)
    (case l3 => k_is)
    (case c3 => k_is)
    (case k3 => k_is)
    (case a4 => k_is)
    (case l4 => k_is)
    (case c4 => k_is)
    (case k4 => k_is)
    (case a5 => k_is)
    (case l5 => k_is)
    (case c5 => k_is)
    (case k5 => k_is)
    (case a6 => k_is)
    (case l6 => k_is)
    (case c6 => k_is)
    (case k6 => k_is)
    (case a7 => k_is)
    (case l7 => k_is)
    (case c7 => k_is)
    (case k7 => k_is)
    (case a8 => k_is)
    (case l8 => k_is)
    (case c8 => k_is)
    (case k8 => k_is)
    (case a9 => k_is)
    (case l9 => k_is)
    (case c9 => k_is)
    (case k9 => k_is)
    (case a10 => k_is)
    (case l10 => k_is)
    (case c10 => k_is)
    (case k10 => k_is)
    (case a11 => k_is)
    (case l11 => k_is)
    (case c11 => k_is)
    (case k11 => k_is)
    (case a12 => k_is)
    (case l12 => k_is)
    (case c12 => k_is)
    (case k12 => k_is)
    (case gCS => k_is)
    (case pgCS => k_is)
    (case hdCS => k_is)
    (case poCS => k_is)
    (case saCS => k_is)
    (case mkCS => k_is)
    (case kcCS => k_is)
    (case nCSmodulus => k_is)
    (case nCSleast => k_is)
    (case nCSadded => k_is)
    (case aSm0 => k_is)
    (case iSm0 => k_is)
    (case lSm0 => k_is)
    (case cSm0 => k_is)
    (case kSm0 => k_is)
    (case aSm1 => k_is)
    (case iSm1 => k_is)
    (case lSm1 => k_is)
    (case cSm1 => k_is)
    (case kSm1 => k_is)
    (case aSm2 => k_is)
    (case iSm2 => k_is)
    (case lSm2 => k_is)
    (case cSm2 => k_is)
    (case kSm2 => k_is)
    (case q_LONGEST => k_is)
    (case r_LONGEST => exact ⟨_, rfl⟩)
    (case q_MOST_LENGTHS => k_is)
    (case r_MOST_LENGTHS => exact ⟨_, rfl⟩)
    (case b_len => k_is)
    (case b_abs => k_is)
    (case b_int => k_is)
    (case b_bool => k_is)
    (case b_str => k_is)
    (case b_tuple => k_is)
    (case b_list => k_is)
    (case b_dict => k_is)
    (case b_set => k_is)
    (case b_range => k_is)
    (case b_zip => k_is)
    (case b_enumerate => k_is)
    (case b_all => k_is)
    (case b_any => k_is)
    (case b_sum => k_is)
    (case b_min => k_is)
    (case b_max => k_is)
    (case b_sorted => k_is)
    (case b_repr => k_is)
    (case b_isinstance => k_is)
#print axioms PySem.Challenge.cw_overlapcode_k07_least_sums_by_plain_addi_holds
