import PyProof.Rows.All
import Wide.All
import OpenK.AllK
import Wide.FinOn
import HandS.ForMost
import HandS.Wide
import HandS.IsInst
import PyProof.ReprRoads
import HandS.Walk
import HandS.Zip
import HandS.TupAny
import HandS.SortInts
import HandS.More
import PyProof.StrLawsRepr
import HandS.SetKeys
import HandS.Strs
import HandS.SetBool
import HandS.TupMul
import HandS.Style
import HandS.Deep
import HandS.TupLe
import PyProof.StrBlock2
import HandS.Conv
import HandS.WordsDict
import PyProof.SetRoads
import HandS.DictComp
import HandS.BoundDict
import HandS.Comp
import HandS.WideMore
import HandS.NoneIn
import HandS.Defaults
import HandS.SetFor
import PySem.Challenge.RW_overlapcode_k04_codes_of_any_values
set_option Elab.async false
set_option linter.all false
set_option maxRecDepth 100000
set_option maxHeartbeats 4000000
namespace Ov
open PySem PySem.Spec PyProof.Rows L2

/-! ### calls where no repr is under way -/
structure Rm (k : Nat) (A : Around) : Prop where
  r : Room k A
  g : A.guards = some []
theorem Rm.mono {j k : Nat} {A : Around} (h : Rm k A) (l : j ≤ k) : Rm j A := ⟨h.r.mono l, h.g⟩
theorem Rm.deeper {k : Nat} {A : Around} (h : Rm (k + 1) A) (env : Env) : Rm k (A.deeper env) := ⟨h.r.deeper env, h.g⟩
theorem mk_guards {A : Around} {C : Addr} {us : List Value} {kw : List (Str × Value)} :
    (A.under (.builtin "type.__call__" ⟨.ref C :: us, kw⟩)).guards = A.guards := by
  simp [Around.under, Code.guards, Code.isGuard, guardIds, pushGuards]
theorem Rm.make {k : Nat} {A : Around} (h : Rm (k + 1) A) (C : Addr) (us : List Value) (kw : List (Str × Value)) :
    Rm k (A.under (.builtin "type.__call__" ⟨.ref C :: us, kw⟩)) := ⟨h.r.make C us kw, by rw [mk_guards]; exact h.g⟩

structure FnG (P : Program) (w : World) (K : PySem.W.Frag) (mg : Str → Option Value) (base : Heap) (CX : CXT) (k : Nat)
    (f : Addr) (fd : FuncData) (ps : List Str) (sp : Sp) : Prop where
  len : ∀ vs H Q E, sp vs H Q E → vs.length = ps.length
  run : ∀ (A : Around) (outer : List Env) (s : Shared) (H : Hp) (args : Args) (us : List Value) (vs : List V) (Q : VK) (E : XK),
    Rm k A → Env0 P w K mg base A outer s H → BindsTo s fd args (ps.zip us) → Vals vs us → sp vs H Q E →
    codeAny (model P w) A (.call (.ref f) args) (CR CX outer P w H s Q E) s

section
variable {P : Program} {w : World} {K : PySem.W.Frag} {mg : Str → Option Value} {base : Heap} {CX : CXT} {k : Nat} {f : Addr}

theorem fnG_of {name qual : Str} {params : Arguments} {body : List Stmt} {scope : Scope} {dV kV doc pm cdv ct oc : Value}
    {an od : Option Addr} {osl : Array (Option Value)} {N ps : List Str} {sp : Sp}
    (lk : K.lookup f = some ⟨oc, od, .func (PySem.W.fnOf name qual params body scope dV kV doc pm an cdv ct), osl⟩)
    (hcd : PySem.W.codeIn K cdv qual = true) (S : FnScope N ps scope) (len : ∀ vs H Q E, sp vs H Q E → vs.length = ps.length)
    (hbody : ∀ (A : Around) (outer : List Env) (s : Shared) (H : Hp) (vs : List V) (Q : VK) (E : XK),
      Rm k (A.deeper (envOfC qual scope s.heap.objs.size f cdv)) → sp vs H Q E →
      ∃ t, PSs (cxOf CX P w K mg base N qual scope f cdv A outer s H E) body t ∧
        t { nx := fun _ H' => Q .non H', rt := Q } (start N vs) H) :
    FnG P w K mg base CX (k + 1) f (PySem.W.fnOf name qual params body scope dV kV doc pm an cdv ct) ps sp := by
  constructor
  · exact len
  intro A outer s H args us vs Q E hr e0 hb rv hsp
  have kx : K.In s.heap := e0.mod.kin.keeps (fun b o e => (e0.bs b o e).1)
  have nl : s.heap.NoLimit := e0.mod.nolimit.keeps (fun b o e => (e0.bs b o e).1)
  have hkd : ∀ y ∈ ps.zip us, scope.names.lookup y.1 = some .local ∨
      (scope.names.lookup y.1 = some .cell ∧ ((cellsFrom (s.heap.objs.size + 1) scope.names []).lookup y.1).isSome = true) := by
    rintro ⟨n, v⟩ hy
    exact (S.par n (List.of_mem_zip hy).1).elim Or.inl (fun q => Or.inr ⟨q, PySem.W.cellsFrom_some _ _ _ (.inl q)⟩)
  refine codeAny_call_function hr.r.depth (kx _ _ lk) rfl S.co S.gen rfl (PySem.W.codeRec_of kx hcd) (hb _ _ _ _ ?_)
  refine wpAny_newFunctionEnv_cells S.kind hkd ?_
  intro env he s1 x
  subst he
  constructor
  · exact nl.keeps x.toInCall.keep
  apply codeAny_func
  obtain ⟨t, ht, hq⟩ := hbody A outer s H vs Q E (hr.deeper _) hsp
  have I := inv_start (CX := CX) (E := E) S hr.r.hd e0 (len _ _ _ _ hsp) rv x
  refine wpAny_mono (ht.run [] s1 (start N vs) H _ I hq) ?_ (fun e s' hs => hs)
  intro fl s' hs
  cases fl with
  | ret u =>
    obtain ⟨v, σ', H', J, r1, q⟩ := hs
    exact ⟨v, H', J.os, J.bare, J.base, J.hok, r1, q⟩
  | next =>
    obtain ⟨σ', H', J, q⟩ := hs
    exact ⟨V.non, H', J.os, J.bare, J.base, J.hok, rfl, q⟩
  | brk => exact hs.elim fun _ h => h.elim fun _ h => False.elim h.2
  | cont => exact hs.elim fun _ h => h.elim fun _ h => False.elim h.2

theorem FnG.mono {j : Nat} {fd : FuncData} {ps : List Str} {sp : Sp} (F : FnG P w K mg base CX j f fd ps sp) (h : j ≤ k) :
    FnG P w K mg base CX k f fd ps sp := ⟨F.len, fun A o s H a us vs Q E hr => F.run A o s H a us vs Q E (hr.mono h)⟩
end

section
variable {X : Cx} {CX : CXT} {k : Nat} {f C : Addr} {fd : FuncData} {ps : List Str} {sp : Sp} {dvs : List V} {ds : List Value} {E : XK}
  {x m : Str} {p pos apos : Pos} {e o : Expr} {es : List Expr} {ta : TE} {t : TA}

theorem runG {pins : List (Addr × Obj)} {σ : L2.St} {H : Hp} {s : Shared} {Q : VK} {us : List Value} {vs : List V}
    (F : FnG X.prog X.w X.K X.mg X.base CX k f fd ps sp) (hr : Rm k X.A) (hb : Binds X.K fd ps ds) (hd : Vals dvs ds) (hx : Passes CX X E)
    (I : Inv X pins σ H s) (r : Vals vs us) (h : sp (vs ++ dvs) H Q E) :
    wpAny (model X.prog X.w) X.A (call (.ref f) us) (EP X pins σ Q) X.xe s := by
  have r2 : Vals (vs ++ dvs) (us ++ ds) := r.append hd
  have hl : (us ++ ds).length = ps.length := by rw [← r2.length]; exact F.len _ _ _ _ h
  apply wpAny_call
  refine codeAny_mono (F.run X.A X.stack s H ⟨us, []⟩ (us ++ ds) (vs ++ dvs) Q E hr I.env0 (hb s us I.kIn hl) r2 h) ?_
  intro r s' hq
  match r, hq with
  | .error e, hq => exact hx pins σ H s e s' I hq
  | .ok (.ret u), hq => exact I.after hq

theorem peG_call (F : FnG X.prog X.w X.K X.mg X.base CX k f fd ps sp) (hr : Rm k X.A) (hg : Gl X x) (hm : X.mg x = some (.ref f))
    (hk : PySem.W.keepIn X.K (.ref f) = true) (hb : Binds X.K fd ps ds) (hd : Vals dvs ds) (hx : Passes CX X E)
    (ha : PA X (e :: es) t) (hdb : (x == ("__debug__" : Str)) = false := by decide)
    (he : starEach (e :: es) X.env = (false, eval e X.env) :: starEach es X.env := by rfl)
    (hpl : (backTo pos (starEach es X.env)).any (·.1) = false := by rfl) :
    PE X (.Call (.Name x p) (e :: es) [] pos) (tCall sp dvs E t) := by
  constructor
  intro pins s σ H Q I h
  refine wpAny_Call_Name_kw (ld_glob I hg hm ?_ hdb)
  refine PySem.W.callWith_K (h₀ := X.base) I.ok.mod.kin hk ?_ he hpl
  refine thn (ha.run pos pins s σ H _ I h) ?_
  rintro us s1 ⟨vs, H1, I1, r, q⟩
  exact ⟨I1.kIn, runG F hr hb hd hx I1 r q⟩
theorem peG_call0 (F : FnG X.prog X.w X.K X.mg X.base CX k f fd ps sp) (hr : Rm k X.A) (hg : Gl X x) (hm : X.mg x = some (.ref f))
    (hk : PySem.W.keepIn X.K (.ref f) = true) (hb : Binds X.K fd ps ds) (hd : Vals dvs ds) (hx : Passes CX X E)
    (hdb : (x == ("__debug__" : Str)) = false := by decide) : PE X (.Call (.Name x p) [] [] pos) (tCall sp dvs E tNil) := by
  constructor
  intro pins s σ H Q I h
  refine wpAny_Call_Name_kw (ld_glob I hg hm ?_ hdb)
  exact PySem.W.callWith_K0 I.kIn hk (runG (us := []) F hr hb hd hx I .nil h)

theorem peG_meth {pl : Sem Bool} (he : PE X o ta) (c : Cls X.K C) (hm : Meth X.K C m f) (F : FnG X.prog X.w X.K X.mg X.base CX k f fd ps sp)
    (hr : Rm k X.A) (hb : Binds X.K fd ps ds) (hd : Vals dvs ds) (hx : Passes CX X E) (ha : PA X (e :: es) t)
    (hst : starEach (e :: es) X.env = (false, eval e X.env) :: starEach es X.env := by rfl)
    (hpl : (backTo pos (starEach es X.env)).any (·.1) = false := by rfl)
    (ht : eval (.Call (.Attribute o m apos) (e :: es) [] pos) X.env = (do
      let ov ← eval o X.env
      standAt apos.atName
      let (f, first) ← holding [ov] (getMethod ov m pl)
      callWith pos f first (backTo pos (starEach (e :: es) X.env)) (backToKw pos (keywordEach [] X.env))) := by rfl) :
    PE X (.Call (.Attribute o m apos) (e :: es) [] pos) (tMeth C m sp dvs E ta t) := by
  constructor
  intro pins s σ H Q I h
  refine PySem.W.methodCall_KW (pl := pl) (thn (he.run pins s σ H _ I h) ?_) ht
  rintro u s1 ⟨x, H1, I1, rx, a, dx, fs, ex, ea, l, q⟩
  subst ex
  obtain rfl : u = Value.ref a := rx
  refine getmeth_ok I1 ea c hm l ?_
  refine PySem.W.callWith_K (first := [.ref a]) (h₀ := X.base) I.ok.mod.kin hm.kp ?_ hst hpl
  refine thn (ha.run pos pins s1 σ H1 _ I1 q) ?_
  rintro us s2 ⟨vs, H2, I2, r, q2⟩
  exact ⟨I2.kIn, runG (us := .ref a :: us) (vs := .ref a :: vs) F hr hb hd hx I2 (.cons rfl r) q2⟩
theorem peG_meth0 {pl : Sem Bool} (he : PE X o ta) (c : Cls X.K C) (hm : Meth X.K C m f) (F : FnG X.prog X.w X.K X.mg X.base CX k f fd ps sp)
    (hr : Rm k X.A) (hb : Binds X.K fd ps ds) (hd : Vals dvs ds) (hx : Passes CX X E)
    (ht : eval (.Call (.Attribute o m apos) [] [] pos) X.env = (do
      let ov ← eval o X.env
      standAt apos.atName
      let (f, first) ← holding [ov] (getMethod ov m pl)
      callWith pos f first (backTo pos (starEach [] X.env)) (backToKw pos (keywordEach [] X.env))) := by rfl) :
    PE X (.Call (.Attribute o m apos) [] [] pos) (tMeth C m sp dvs E ta tNil) := by
  constructor
  intro pins s σ H Q I h
  refine PySem.W.methodCall_KW (pl := pl) (thn (he.run pins s σ H _ I h) ?_) ht
  rintro u s1 ⟨x, H1, I1, rx, a, dx, fs, ex, ea, l, q⟩
  subst ex
  obtain rfl : u = Value.ref a := rx
  refine getmeth_ok I1 ea c hm l ?_
  exact PySem.W.callWith_K0 (first := [.ref a]) I1.kIn hm.kp
    (runG (us := [.ref a]) (vs := [.ref a]) F hr hb hd hx I1 (.cons rfl .nil) q)

theorem runG_make {pins : List (Addr × Obj)} {σ : L2.St} {H : Hp} {s : Shared} {Q : VK} {us : List Value} {vs : List V}
    (M : Mk X.K C f) (F : FnG X.prog X.w X.K X.mg X.base CX k f fd ps sp) (hr : Rm (k + 1) X.A) (hb : Binds X.K fd ps ds) (hd : Vals dvs ds)
    (hx : Passes CX X E) (I : Inv X pins σ H s) (r : Vals vs us)
    (h : ∀ x dx, H x = none → H dx = none → dx ≠ x →
      sp (.ref x :: (vs ++ dvs)) (upd (upd H dx (.own x)) x (.ins C dx [])) (fun v H2 => v = .non ∧ Q (.ref x) H2) E) :
    wpAny (model X.prog X.w) X.A (call (.ref C) us) (EP X pins σ Q) X.xe s := by
  have hq := h (s.heap.objs.size + 1) s.heap.objs.size (I.hok.fresh (Nat.le_succ _)) (I.hok.fresh (Nat.le_refl _))
    (Nat.ne_of_lt (Nat.lt_succ_self _))
  have I2 := Inv.made (C := C) I
  have r2 : Vals (V.ref (s.heap.objs.size + 1) :: (vs ++ dvs)) (Value.ref (s.heap.objs.size + 1) :: (us ++ ds)) := .cons rfl (r.append hd)
  have hl : (Value.ref (s.heap.objs.size + 1) :: us ++ ds).length = ps.length := by
    have e := r2.length
    rw [F.len _ _ _ _ hq] at e
    exact e.symm
  apply wpAny_call
  refine make_map (f := f) I.kIn M.makes M.init (beq_iff_eq.mp M.fn) ?_
  refine codeAny_mono (F.run _ X.stack _ _ ⟨Value.ref (s.heap.objs.size + 1) :: us, []⟩ (Value.ref (s.heap.objs.size + 1) :: (us ++ ds)) _ _ E
    (hr.make C us []) (I2.env0.make C us []) (hb _ (Value.ref (s.heap.objs.size + 1) :: us) I2.kIn hl) r2 hq) ?_
  intro r s' hq'
  match r, hq' with
  | .error e, hq' => exact hx pins σ _ _ e s' I2 hq'
  | .ok (.ret u), hq' =>
    obtain ⟨v, H', I3, rv, ev, q3⟩ := I2.after hq'
    subst ev
    exact ⟨rv, ⟨V.ref (s.heap.objs.size + 1), H', I3, rfl, q3⟩⟩
theorem peG_make (M : Mk X.K C f) (F : FnG X.prog X.w X.K X.mg X.base CX k f fd ps sp) (hr : Rm (k + 1) X.A) (hg : Gl X x)
    (hm : X.mg x = some (.ref C)) (hb : Binds X.K fd ps ds) (hd : Vals dvs ds) (hx : Passes CX X E)
    (ha : PA X (e :: es) t) (hdb : (x == ("__debug__" : Str)) = false := by decide)
    (he : starEach (e :: es) X.env = (false, eval e X.env) :: starEach es X.env := by rfl)
    (hpl : (backTo pos (starEach es X.env)).any (·.1) = false := by rfl) :
    PE X (.Call (.Name x p) (e :: es) [] pos) (tMake C sp dvs E t) := by
  constructor
  intro pins s σ H Q I h
  refine wpAny_Call_Name_kw (ld_glob I hg hm ?_ hdb)
  refine PySem.W.callWith_K (h₀ := X.base) I.ok.mod.kin M.kp ?_ he hpl
  refine thn (ha.run pos pins s σ H _ I h) ?_
  rintro us s1 ⟨vs, H1, I1, r, q⟩
  exact ⟨I1.kIn, runG_make M F hr hb hd hx I1 r q⟩
end

section
variable {X : Cx} {CX : CXT} {k : Nat} {f C : Addr} {fd : FuncData} {ps ks : List Str} {sp : Sp} {E : XK} {x m : Str} {p pos apos kpos : Pos}
  {e o : Expr} {es : List Expr} {kws : List Keyword} {te ta : TE} {t tk : TA} {g : List Value → List Value → List Value} {gV : List V → List V → List V}
theorem runGK {pins : List (Addr × Obj)} {σ : L2.St} {H : Hp} {s : Shared} {Q : VK} {us ws : List Value} {vs zs : List V}
    (F : FnG X.prog X.w X.K X.mg X.base CX k f fd ps sp) (hr : Rm k X.A) (hb : KBinds X.K fd ps ks g gV) (hx : Passes CX X E)
    (I : Inv X pins σ H s) (r : Vals vs us) (rz : Vals zs ws) (h : sp (gV vs zs) H Q E) :
    wpAny (model X.prog X.w) X.A (call (.ref f) us (ks.zip ws)) (EP X pins σ Q) X.xe s := by
  have r2 := hb.rel r rz
  have hl : (g us ws).length = ps.length := by rw [← r2.length]; exact F.len _ _ _ _ h
  apply wpAny_call
  refine codeAny_mono (F.run X.A X.stack s H ⟨us, ks.zip ws⟩ (g us ws) (gV vs zs) Q E hr I.env0 (hb.to s us ws I.kIn hl) r2 h) ?_
  intro r s' hq
  match r, hq with
  | .error e, hq => exact hx pins σ H s e s' I hq
  | .ok (.ret u), hq => exact I.after hq
theorem peG_callK (F : FnG X.prog X.w X.K X.mg X.base CX k f fd ps sp) (hr : Rm k X.A) (hg : Gl X x) (hm : X.mg x = some (.ref f))
    (hk : PySem.W.keepIn X.K (.ref f) = true) (hb : KBinds X.K fd ps ks g gV) (hx : Passes CX X E)
    (ha : PA X (e :: es) t) (hkw : PK X kws tk) (hall : (backToKw pos (keywordEach kws X.env)).all (·.1.isSome) = true := by rfl)
    (hks : (backToKw pos (keywordEach kws X.env)).filterMap (·.1) = ks := by rfl)
    (hdb : (x == ("__debug__" : Str)) = false := by decide)
    (he : starEach (e :: es) X.env = (false, eval e X.env) :: starEach es X.env := by rfl)
    (hpl : ((backTo pos (starEach (e :: es) X.env)).any (·.1) || (backToKw pos (keywordEach kws X.env)).any (·.1.isNone)) = false := by rfl) :
    PE X (.Call (.Name x p) (e :: es) kws pos) (tCallK sp gV E t tk) := by
  constructor
  intro pins s σ H Q I h
  refine wpAny_Call_Name_kw (ld_glob I hg hm ?_ hdb)
  refine PySem.W.callWith_KW (h₀ := X.base) I.ok.mod.kin hk hall ?_ hpl he
  refine thn (ha.run pos pins s σ H _ I h) ?_
  rintro us s1 ⟨vs, H1, I1, r, q⟩
  refine thn (hkw.run pos pins s1 σ H1 _ I1 q) ?_
  rintro ws s2 ⟨zs, H2, I2, rz, q2⟩
  refine ⟨I2.kIn, ?_⟩
  rw [hks]
  exact runGK F hr hb hx I2 r rz q2
end

section
variable {X : Cx} {CX : CXT} {k : Nat} {f C : Addr} {fd : FuncData} {ps ks : List Str} {sp : Sp} {E : XK} {x m : Str} {p pos apos kpos : Pos}
  {kws : List Keyword} {tk : TA} {g : List Value → List Value → List Value} {gV : List V → List V → List V}
theorem peG_callK0 (F : FnG X.prog X.w X.K X.mg X.base CX k f fd ps sp) (hr : Rm k X.A) (hg : Gl X x) (hm : X.mg x = some (.ref f))
    (hk : PySem.W.keepIn X.K (.ref f) = true) (hb : KBinds X.K fd ps ks g gV) (hx : Passes CX X E)
    (hkw : PK X kws tk) (hall : (backToKw pos (keywordEach kws X.env)).all (·.1.isSome) = true := by rfl)
    (hks : (backToKw pos (keywordEach kws X.env)).filterMap (·.1) = ks := by rfl)
    (hdb : (x == ("__debug__" : Str)) = false := by decide)
    (hpl : ((backTo pos (starEach [] X.env)).any (·.1) || (backToKw pos (keywordEach kws X.env)).any (·.1.isNone)) = false := by rfl) :
    PE X (.Call (.Name x p) [] kws pos) (tCallK sp gV E tNil tk) := by
  constructor
  intro pins s σ H Q I h
  refine wpAny_Call_Name_kw (ld_glob I hg hm ?_ hdb)
  refine PySem.W.callWith_KW0 (h₀ := X.base) I.ok.mod.kin hk hall ?_ hpl
  refine thn (hkw.run pos pins s σ H _ I h) ?_
  rintro ws s2 ⟨zs, H2, I2, rz, q2⟩
  refine ⟨I2.kIn, ?_⟩
  rw [hks]
  exact runGK (us := []) (vs := []) F hr hb hx I2 .nil rz q2
end

/-! ### repr of data -/
mutual
theorem noDict {K : PySem.W.Frag} {H : Hp} : ∀ (d : PyData) {x : V}, Dp K H x d → d.hasDict = false
  | .none, _, _ => rfl
  | .bool _, _, _ => rfl
  | .int _, _, _ => rfl
  | .str _, _, _ => rfl
  | .list ds, _, h => by cases h with | lst _ ha => simpa [PyData.hasDict] using noDictAll ds ha
  | .tuple ds, _, h => by cases h with | tup _ ha => simpa [PyData.hasDict] using noDictAll ds ha
  | .dict _, _, h => by cases h
theorem noDictAll {K : PySem.W.Frag} {H : Hp} : ∀ (ds : List PyData) {xs : List V}, DpAll K H xs ds → PyData.hasDictAll ds = false
  | [], _, _ => rfl
  | d :: ds, _, h => by cases h with | cons h1 h2 => simp [PyData.hasDictAll, noDict d h1, noDictAll ds h2]
end
theorem call_reprD {X : Cx} (hg : X.A.guards = some []) (hu : X.A.units + 64 < cLine) : CallR X (.builtin "repr") (fun xs H Q =>
    ∃ x d, xs = [x] ∧ Dp X.K H x d ∧ d.showable = true ∧ d.depth ≤ 60 ∧ d.shown.length ≤ sizeLine ∧ Q (.str d.shown) H) := by
  intro pins s σ H xs us Q I r h
  obtain ⟨x, d, rfl, hd, hs, hdp, hz, q⟩ := h
  cases r with
  | cons r0 r1 =>
  cases r1
  rename_i u
  obtain ⟨as, rd⟩ := Dp.reads I d x u hd r0
  have nd := noDict d hd
  cases hd with
  | non => cases r0; exact PySem.P.repr_of_none ⟨.str _, H, I.tok _, ⟨_, rfl⟩, q⟩
  | bl b => cases r0; exact PySem.P.repr_of_bool ⟨.str _, H, I.tok _, ⟨_, rfl⟩, q⟩
  | int i =>
    obtain ⟨t, rfl⟩ := r0
    exact PySem.P.repr_of_int (of_decide_eq_true hs) ⟨.str _, H, I.tok _, ⟨_, rfl⟩, q⟩
  | str z =>
    obtain ⟨t, rfl⟩ := r0
    exact PySem.P.repr_of_str ⟨.str _, H, I.tok _, ⟨_, rfl⟩, q⟩ hz
  | lst h1 h2 =>
    cases r0
    refine repr_of_reads' rd hs (fun z => by rw [nd] at z; cases z) hg (by omega) (fun _ _ e => e) ?_ hz
    intro h' u tk hk
    exact ⟨.str _, H, I.kept hk, ⟨_, rfl⟩, q⟩
  | tup h1 h2 =>
    cases r0
    refine repr_of_reads' rd hs (fun z => by rw [nd] at z; cases z) hg (by omega) (fun _ _ e => e) ?_ hz
    intro h' u tk hk
    exact ⟨.str _, H, I.kept hk, ⟨_, rfl⟩, q⟩
end Ov

set_option maxHeartbeats 4000000
namespace Ov
open PySem PySem.Spec PyProof.Rows L2

/-! ### the end of a law -/
theorem lawG {P : Program} {w : World} {K : PySem.W.Frag} {mg mb : Str → Option Value} {CX : CXT} {k : Nat} {fa a : Addr} {fd : FuncData}
    {x : Str} {sp : Sp} {s1 : Shared} {vs : List Value} {ns : List Int}
    (kx : K.In s1.heap) (hns : s1.heap.Ns mainGlobals mg) (hb : s1.heap.Ns builtinsNs mb)
    (hbb : ∀ x : Str, x ≠ "__name__" → mb x = bootBuiltins x) (hlim : s1.heap.NoLimit) (hg : s1.gens = #[])
    (ha : s1.heap.get? a = some { cls := .type "list", data := .seq vs.toArray }) (hi : IntsAre vs ns) (hl : ns.length ≤ sizeLine)
    (hr : Rm k callerA)
    (F : ∀ base : Heap, K.In base → base.Ns mainGlobals mg → FnG P w K mg base CX k fa fd [x] sp)
    (hbind : ∀ (s : Shared) (u : Value), BindsTo s fd ⟨[u], []⟩ [(x, u)])
    (hsp : ∀ H : Hp, Only H → SqL K H a (ns.map V.int) → sp [.ref a] H (fun v _ => v = .bl true) fun _ _ _ => False)
    (hCX : ∀ H e s', CX [] H s1 (fun _ _ _ => False) e s' → False) :
    codeAny (model P w) callerA (.call (.ref fa) ⟨[.ref a], []⟩)
      (fun r s' => r = .ok (.ret (.bool true)) ∧ OldK s1.heap s'.heap ∧ s'.os = s1.os ∧ AllBare s'.gens) s1 := by
  have rv := vals_ints hi
  have key : ∀ H : Hp, Only H → SqL K H a (ns.map V.int) → HOk P w H s1.heap → (∀ b, H b ≠ none → b = a) →
      (H a ≠ none → K.lookup a = none) →
      codeAny (model P w) callerA (.call (.ref fa) ⟨[.ref a], []⟩)
        (fun r s' => r = .ok (.ret (.bool true)) ∧ OldK s1.heap s'.heap ∧ s'.os = s1.os ∧ AllBare s'.gens) s1 := by
    intro H hO hS hok hA hK
    have tracked : ∀ {b : Addr}, H b = none ∨ b = a := by
      intro b
      cases q : H b with
      | none => exact Or.inl rfl
      | some u => exact Or.inr (hA b (by simp [q]))
    have nsK : ∀ {b : Addr} {m : Str → Option Value}, s1.heap.Ns b m → (hidT s1.heap H).Ns b m := by
      rintro b m ⟨o, es, ep, e, d, r⟩
      refine ⟨o, es, ep, hidT_get e ?_, d, r⟩
      rcases tracked (b := b) with z | z
      · exact z
      · subst z
        rw [ha] at e
        cases e
        cases (show Data.seq vs.toArray _ = Data.dict es ep from d)
    have kb : K.In (hidT s1.heap H) := by
      intro b o e
      refine hidT_get (kx b o e) ?_
      cases q : H b with
      | none => rfl
      | some u =>
        have z : b = a := hA b (by simp [q])
        subst z
        rw [hK (by simp [q])] at e
        cases e
    have hM : Mod K mg (hidT s1.heap H) := ⟨kb, nsK hns, ⟨mb, nsK hb, hbb⟩, let ⟨mc, h1, h2⟩ := hlim; ⟨mc, nsK h1, h2⟩⟩
    have e0 : Env0 P w K mg (hidT s1.heap H) callerA [] s1 H := by
      refine ⟨rfl, hM, fun b o e => of_hidT e, Nat.le_of_eq (hidT_size _ _), trivial, ?_, hok, .of_eq hg⟩
      intro b hb
      exact absurd (show b ∈ ([] : List Addr) from hb) List.not_mem_nil
    have run := (F _ kb (nsK hns)).run callerA [] s1 H ⟨[.ref a], []⟩ [.ref a] [.ref a] _ _ hr e0 (hbind s1 (.ref a)) (.cons rfl .nil) (hsp H hO hS)
    refine codeAny_mono run ?_
    intro r s' h
    match r, h with
    | .error e, h => exact (hCX H e s' h).elim
    | .ok (.ret u), h =>
      obtain ⟨v, H', os, bare, un, hok', r', q⟩ := h
      obtain rfl : v = .bl true := q
      obtain rfl : u = Value.bool true := r'
      refine ⟨rfl, OldK.of_keep ?_, os, bare⟩
      intro b o e
      rcases hO b with z | ⟨ob, xs, z⟩
      · exact un.keep b o e z (fun y => absurd (show b ∈ ([] : List Addr) from y) List.not_mem_nil) List.not_mem_nil
      · obtain ⟨e1, _⟩ := hok b _ z
        obtain ⟨e2, _⟩ := hok' b _ (un.frzs b ob _ z)
        rw [e] at e1
        cases e1
        exact e2
  cases hk : K.lookup a with
  | some o =>
    have e := kx a o hk
    rw [ha] at e
    cases e
    refine key (fun _ => none) (fun _ => .inl rfl) (.inr ⟨_, vs.toArray, _, hk, rfl, rfl, rfl, ?_, by simpa using rv⟩) ?_ (fun b z => absurd rfl z)
      (fun z => absurd rfl z)
    · rw [List.size_toArray, hi.length]
      exact hl
    · intro b u z
      cases (show (none : Option HO) = some u from z)
  | none =>
    refine key (fun b => if b = a then some (.frz { cls := .type "list", data := .seq vs.toArray } (.lst (ns.map V.int))) else none) ?_
      (.inl (.inr ⟨{ cls := .type "list", data := .seq vs.toArray }, if_pos rfl⟩)) ?_ ?_ (fun _ => hk)
    · intro b
      by_cases hb : b = a
      · exact .inr ⟨_, _, if_pos hb⟩
      · exact .inl (if_neg hb)
    · intro b u z
      by_cases hb : b = a
      · cases (if_pos hb).symm.trans z
        subst hb
        exact ⟨ha, by rw [List.length_map]; exact hl, vs, _, rv, ha⟩
      · cases (if_neg hb).symm.trans z
    · intro b z
      by_cases hb : b = a
      · exact hb
      · exact absurd (if_neg hb) z

/-- what a law's def must keep: a list of at most 63 ints is handed in, True comes out -/
def spLaw (K : PySem.W.Frag) : Sp := fun vs H Q _ => ∃ (a : Addr) (ns : List Int), vs = [.ref a] ∧ Only H ∧ SqL K H a (ns.map V.int) ∧ ns.length ≤ 63 ∧ ∀ H', Q (.bl true) H'

theorem room_caller : Rm 30 callerA := ⟨⟨rfl, by decide, by decide⟩, rfl⟩

theorem walkG {l : PySem.W.OpenLaw} {q : Program} {loose : List Str} {XP : (Str → Option Value) → Heap → Prop} {YP : World → Heap → Prop}
    {d : DefRec} {K : Params → PySem.W.Frag} {x : Str} (hn : l.most = some 63) (hdf : d.params.defaults = [])
    (hY : ∀ (w : World) (h : Heap), YP w h → (K w.params).In h)
    (F : ∀ (w : World) (mg : Str → Option Value) (fa : Addr) (h : Heap), (K w.params).In h → h.Ns mainGlobals mg → mg d.name = some (.ref fa) →
      ∃ fd : FuncData, (∀ (s : Shared) (u : Value), BindsTo s fd ⟨[u], []⟩ [(x, u)]) ∧
        ∀ base : Heap, (K w.params).In base → base.Ns mainGlobals mg →
          FnG l.prog w (K w.params) mg base CX0 30 fa fd [x] (spLaw (K w.params))) :
    PySem.W.WalkO q loose XP YP l.row.toRowW d [] (fun f vs => PySem.call f vs) := by
  refine Att.attach_call hn hdf ?_
  intro w s₀ s₁ mg mb fa o pm cd doc a vs ns G Y ho hd hcd hmg hobj hints hlen hg
  have kx := hY w _ Y
  obtain ⟨fd, hb, hF⟩ := F w mg fa _ kx G.T.g hmg
  refine lawG kx G.T.g G.T.b G.T.builtins G.T.nolimit hg hobj hints (Nat.le_trans hlen (by decide)) room_caller hF hb ?_ (fun _ _ _ z => z)
  intro H hO hS
  exact ⟨a, ns, rfl, hO, hS, hlen, fun _ => rfl⟩

/-! ### defs of the text -/
/-- a def of the module, without defaults -/
structure At (K : PySem.W.Frag) (mg : Str → Option Value) (x : Str) (st : Stmt) (f : Addr) (fd : FuncData) : Prop where
  fn : Fun K x x st f fd
  mgf : mg x = some (.ref f)
theorem at_mk {K : PySem.W.Frag} {h : Heap} {mg : Str → Option Value} {x : Str} {st : Stmt} {f : Addr} (X : K.In h) (G : h.Ns mainGlobals mg)
    {oc : Value} {od an : Option Addr} {osl : Array (Option Value)} {kV doc pm cdv ct : Value}
    (a : PySem.W.nsIn K mainGlobals x = some (some (.ref f)))
    (l : K.lookup f = some ⟨oc, od, .func (PySem.W.fnOf x x (defArgs st) (defBody st) (defScope st) .none kV doc pm an cdv ct), osl⟩)
    (c : PySem.W.codeIn K cdv x = true) (k : PySem.W.keepIn K (.ref f) = true) :
    ∃ f fd, At K mg x st f fd := ⟨_, _, fun_mk l c k, PySem.W.mg_of X G a⟩

/-- a def that may be called by its name, every parameter given -/
structure Cal (P : Program) (w : World) (K : PySem.W.Frag) (mg : Str → Option Value) (base : Heap) (CX : CXT) (k : Nat) (x : Str) (ps : List Str) (sp : Sp) : Prop where
  ex : ∃ (f : Addr) (fd : FuncData), FnG P w K mg base CX k f fd ps sp ∧ mg x = some (.ref f) ∧ PySem.W.keepIn K (.ref f) = true ∧ Binds K fd ps [] ∧
    ∃ oc od osl, K.lookup f = some ⟨oc, od, .func fd, osl⟩
/-- .. with keywords -/
structure CalK (P : Program) (w : World) (K : PySem.W.Frag) (mg : Str → Option Value) (base : Heap) (CX : CXT) (k : Nat) (x : Str) (ps ks : List Str) (g : List Value → List Value → List Value) (gV : List V → List V → List V) (sp : Sp) : Prop where
  ex : ∃ (f : Addr) (fd : FuncData), FnG P w K mg base CX k f fd ps sp ∧ mg x = some (.ref f) ∧ PySem.W.keepIn K (.ref f) = true ∧ KBinds K fd ps ks g gV
theorem Cal.kw {P : Program} {w : World} {K : PySem.W.Frag} {mg : Str → Option Value} {base : Heap} {CX : CXT} {k : Nat} {x : Str} {ps ks : List Str} {g : List Value → List Value → List Value} {gV : List V → List V → List V} {sp : Sp} {st : Stmt} {f : Addr} {fd : FuncData}
    (c : Cal P w K mg base CX k x ps sp) (F : At K mg x st f fd) (hg : ∀ (kV doc pm : Value) (an : Option Addr) (cdv ct : Value) (us ws : List Value), (g us ws).length = ps.length →
      bindArgs (PySem.W.fnOf x x (defArgs st) (defBody st) (defScope st) .none kV doc pm an cdv ct) ⟨us, ks.zip ws⟩ = pure (ps.zip (g us ws)))
    (hv : ∀ {vs : List V} {us : List Value} {zs : List V} {ws : List Value}, Vals vs us → Vals zs ws → Vals (gV vs zs) (g us ws)) : CalK P w K mg base CX k x ps ks g gV sp := by
  obtain ⟨f', fd', h1, h2, h3, h4, oc, od, osl, h5⟩ := c.ex
  have e := h2.symm.trans F.mgf
  cases e
  obtain ⟨oc2, od2, kV, doc, pm, an, cdv, ct, osl2, e2, h6, h7⟩ := F.fn.ex
  rw [h5] at h6
  cases h6
  refine ⟨_, _, h1, h2, h3, ?_, hv⟩
  intro s us ws _ hl
  rw [e2]
  exact .of_eq (hg kV doc pm an cdv ct us ws hl)
/-- a method -/
structure Met (P : Program) (w : World) (K : PySem.W.Frag) (mg : Str → Option Value) (base : Heap) (CX : CXT) (k : Nat) (C : Addr) (m : Str) (ps : List Str) (sp : Sp) : Prop where
  ex : ∃ (f : Addr) (fd : FuncData), Cls K C ∧ Meth K C m f ∧ FnG P w K mg base CX k f fd ps sp ∧ Binds K fd ps []
/-- a class to be made by its name -/
structure Mak (P : Program) (w : World) (K : PySem.W.Frag) (mg : Str → Option Value) (base : Heap) (CX : CXT) (k : Nat) (x : Str) (C : Addr) (ps : List Str) (sp : Sp) : Prop where
  ex : ∃ (f : Addr) (fd : FuncData), Mk K C f ∧ FnG P w K mg base CX k f fd ps sp ∧ mg x = some (.ref C) ∧ Binds K fd ps []

section
variable {X : Cx} {k j : Nat} {C : Addr} {x m : Str} {ps : List Str} {sp : Sp} {p pos apos : Pos} {e o : Expr} {es : List Expr} {ta : TE} {t : TA}
/-- f(e, ..) of a def that raises nothing -/
theorem pc (c : Cal X.prog X.w X.K X.mg X.base CX0 k x ps sp) (hr : Rm j X.A) (ha : PA X (e :: es) t) (hk : k ≤ j := by decide) (hg : Gl X x := by rfl)
    (hdb : (x == ("__debug__" : Str)) = false := by decide)
    (he : starEach (e :: es) X.env = (false, eval e X.env) :: starEach es X.env := by rfl)
    (hpl : (backTo pos (starEach es X.env)).any (·.1) = false := by rfl) :
    PE X (.Call (.Name x p) (e :: es) [] pos) (tCall sp [] E0 t) := by
  obtain ⟨f, fd, F, hm, kp, b, _⟩ := c.ex
  exact peG_call F (hr.mono hk) hg hm kp b .nil pass0 ha hdb he hpl
/-- f(k = e, ..) -/
theorem pck {kws : List Keyword} {tk : TA} {ks : List Str} {g : List Value → List Value → List Value} {gV : List V → List V → List V} (c : CalK X.prog X.w X.K X.mg X.base CX0 k x ps ks g gV sp) (hr : Rm j X.A) (hkw : PK X kws tk)
    (hk : k ≤ j := by decide) (hg : Gl X x := by rfl)
    (hall : (backToKw pos (keywordEach kws X.env)).all (·.1.isSome) = true := by rfl)
    (hks : (backToKw pos (keywordEach kws X.env)).filterMap (·.1) = ks := by rfl) (hdb : (x == ("__debug__" : Str)) = false := by decide)
    (hpl : ((backTo pos (starEach [] X.env)).any (·.1) || (backToKw pos (keywordEach kws X.env)).any (·.1.isNone)) = false := by rfl) :
    PE X (.Call (.Name x p) [] kws pos) (tCallK sp gV E0 tNil tk) := by
  obtain ⟨f, fd, F, hm, kp, b⟩ := c.ex
  exact peG_callK0 F (hr.mono hk) hg hm kp b pass0 hkw hall hks hdb hpl
theorem pm {pl : Sem Bool} (c : Met X.prog X.w X.K X.mg X.base CX0 k C m ps sp) (hr : Rm j X.A) (ho : PE X o ta) (ha : PA X (e :: es) t) (hk : k ≤ j := by decide)
    (hst : starEach (e :: es) X.env = (false, eval e X.env) :: starEach es X.env := by rfl)
    (hpl : (backTo pos (starEach es X.env)).any (·.1) = false := by rfl)
    (ht : eval (.Call (.Attribute o m apos) (e :: es) [] pos) X.env = (do
      let ov ← eval o X.env
      standAt apos.atName
      let (f, first) ← holding [ov] (getMethod ov m pl)
      callWith pos f first (backTo pos (starEach (e :: es) X.env)) (backToKw pos (keywordEach [] X.env))) := by rfl) :
    PE X (.Call (.Attribute o m apos) (e :: es) [] pos) (tMeth C m sp [] E0 ta t) := by
  obtain ⟨f, fd, cl, me, F, b⟩ := c.ex
  exact peG_meth ho cl me F (hr.mono hk) b .nil pass0 ha hst hpl ht
theorem pm0 {pl : Sem Bool} (c : Met X.prog X.w X.K X.mg X.base CX0 k C m ps sp) (hr : Rm j X.A) (ho : PE X o ta) (hk : k ≤ j := by decide)
    (ht : eval (.Call (.Attribute o m apos) [] [] pos) X.env = (do
      let ov ← eval o X.env
      standAt apos.atName
      let (f, first) ← holding [ov] (getMethod ov m pl)
      callWith pos f first (backTo pos (starEach [] X.env)) (backToKw pos (keywordEach [] X.env))) := by rfl) :
    PE X (.Call (.Attribute o m apos) [] [] pos) (tMeth C m sp [] E0 ta tNil) := by
  obtain ⟨f, fd, cl, me, F, b⟩ := c.ex
  exact peG_meth0 ho cl me F (hr.mono hk) b .nil pass0 ht
theorem pmk (c : Mak X.prog X.w X.K X.mg X.base CX0 k x C ps sp) (hr : Rm j X.A) (ha : PA X (e :: es) t) (hk : k + 1 ≤ j := by decide) (hg : Gl X x := by rfl)
    (hdb : (x == ("__debug__" : Str)) = false := by decide)
    (he : starEach (e :: es) X.env = (false, eval e X.env) :: starEach es X.env := by rfl)
    (hpl : (backTo pos (starEach es X.env)).any (·.1) = false := by rfl) :
    PE X (.Call (.Name x p) (e :: es) [] pos) (tMake C sp [] E0 t) := by
  obtain ⟨f, fd, M, F, hm, b⟩ := c.ex
  exact peG_make M F (hr.mono hk) hg hm b .nil pass0 ha hdb he hpl
end

section
variable {P : Program} {w : World} {K : PySem.W.Frag} {mg : Str → Option Value} {base : Heap} {k : Nat} {sp : Sp} {N ps : List Str} {st : Stmt} {f : Addr} {fd : FuncData}
/-- the body of a def that raises nothing -/
def Body (P : Program) (w : World) (K : PySem.W.Frag) (mg : Str → Option Value) (base : Heap) (k : Nat) (qual : Str) (st : Stmt) (f : Addr) (N : List Str) (sp : Sp) : Prop :=
  ∀ (cdv : Value) (A : Around) (outer : List Env) (s : Shared) (H : Hp) (vs : List V) (Q : VK) (E : XK),
    Rm k (A.deeper (envOfC qual (defScope st) s.heap.objs.size f cdv)) → sp vs H Q E →
    ∃ t, PSs (cxOf CX0 P w K mg base N qual (defScope st) f cdv A outer s H E).nox (defBody st) t ∧
      t { nx := fun _ H' => Q .non H', rt := Q } (start N vs) H
theorem fnG_mk {x qual : Str} (F : Fun K x qual st f fd) (S : FnScope N ps (defScope st)) (len : ∀ vs H Q E, sp vs H Q E → vs.length = ps.length)
    (hbody : Body P w K mg base k qual st f N sp) : FnG P w K mg base CX0 (k + 1) f fd ps sp := by
  obtain ⟨oc, od, kV, doc, pm, an, cdv, ct, osl, rfl, lk, hcd⟩ := F.ex
  refine fnG_of lk hcd S len ?_
  intro A outer s H vs Q E hr hsp
  obtain ⟨t, h, q⟩ := hbody cdv A outer s H vs Q E hr hsp
  exact ⟨t, h.nox, q⟩
theorem cal_mk {x : Str} (F : At K mg x st f fd) (b : Binds K fd ps []) (S : FnScope N ps (defScope st)) (len : ∀ vs H Q E, sp vs H Q E → vs.length = ps.length)
    (hbody : Body P w K mg base k x st f N sp) : Cal P w K mg base CX0 (k + 1) x ps sp :=
  ⟨f, fd, fnG_mk F.fn S len hbody, F.mgf, F.fn.kp, b, let ⟨oc, od, _, _, _, _, _, _, osl, _, h, _⟩ := F.fn.ex; ⟨oc, od, osl, h⟩⟩
theorem met_mk {C : Addr} {m qual : Str} (c : Cls K C) (me : Meth K C m f) (F : Fun K m qual st f fd) (b : Binds K fd ps []) (S : FnScope N ps (defScope st))
    (len : ∀ vs H Q E, sp vs H Q E → vs.length = ps.length) (hbody : Body P w K mg base k qual st f N sp) : Met P w K mg base CX0 (k + 1) C m ps sp :=
  ⟨f, fd, c, me, fnG_mk F S len hbody, b⟩
theorem mak_mk {C : Addr} {x qual : Str} (M : Mk K C f) (hm : mg x = some (.ref C)) (F : Fun K "__init__" qual st f fd) (b : Binds K fd ps []) (S : FnScope N ps (defScope st))
    (len : ∀ vs H Q E, sp vs H Q E → vs.length = ps.length) (hbody : Body P w K mg base k qual st f N sp) : Mak P w K mg base CX0 (k + 1) x C ps sp :=
  ⟨f, fd, M, fnG_mk F S len hbody, hm, b⟩
end
end Ov

set_option maxHeartbeats 4000000
namespace Ov
open PySem PySem.Spec PyProof.Rows L2

/-- what a reading may ask for without being a loop -/
class Plain (α : Type) : Prop where
  ok : True
instance : Plain V := ⟨trivial⟩
instance : Plain Int := ⟨trivial⟩
instance : Plain Nat := ⟨trivial⟩
instance : Plain Bool := ⟨trivial⟩
instance : Plain Str := ⟨trivial⟩
instance : Plain Obj := ⟨trivial⟩
instance : Plain Value := ⟨trivial⟩
instance : Plain String := ⟨trivial⟩
instance : Plain PyData := ⟨trivial⟩
instance : Plain HO := ⟨trivial⟩
instance {α : Type} : Plain (List α) := ⟨trivial⟩
instance {α : Type} : Plain (Option α) := ⟨trivial⟩
instance {α : Type} : Plain (Array α) := ⟨trivial⟩
instance {α β : Type} : Plain (α × β) := ⟨trivial⟩
instance {α β : Type} : Plain (Sum α β) := ⟨trivial⟩
instance : Plain Hp := ⟨trivial⟩
theorem exi {α : Type} [Plain α] {p : α → Prop} (w : α) (h : p w) : Exists p := ⟨w, h⟩

/-- a place where a reading stops -/
structure Hold (p : Prop) : Prop where
  h : p
/-! ### heaps -/
/-- all but what stands at b is as it was -/
def SameB (b : Addr) (H H' : Hp) : Prop := ∀ a o, a ≠ b → H a = some o → H' a = some o
theorem SameB.refl (b : Addr) (H : Hp) : SameB b H H := fun _ _ _ h => h
theorem SameB.trans {b : Addr} {H H1 H2 : Hp} (x : SameB b H H1) (y : SameB b H1 H2) : SameB b H H2 := fun a o n h => y a o n (x a o n h)
theorem Same.toB {b : Addr} {H H1 : Hp} (x : Same H H1) : SameB b H H1 := fun a o _ h => x a o h
theorem SameB.same {b : Addr} {H H1 H2 : Hp} (x : SameB b H H1) (y : Same H1 H2) : SameB b H H2 := fun a o n h => y a o (x a o n h)
theorem same_new {H : Hp} {p : Addr} {o : HO} (h : H p = none) : Same H (upd H p o) := fun a u e => by rw [upd_ne (ne_of_none e h)]; exact e
theorem sameB_upd {H : Hp} {b : Addr} {o : HO} : SameB b H (upd H b o) := fun a u n e => by rw [upd_ne n]; exact e
theorem SameB.updp {b : Addr} {H H1 : Hp} {o : HO} (x : SameB b H H1) : SameB b H (upd H1 b o) := x.trans sameB_upd
theorem SameB.new {b n : Addr} {H H1 : Hp} {o : HO} (x : SameB b H H1) (h : H1 n = none) : SameB b H (upd H1 n o) := x.same (same_new h)
theorem SameB.mut {b n : Addr} {H H1 : Hp} {o : HO} (x : SameB b H H1) (h : H n = none) : SameB b H (upd H1 n o) := fun a u h1 h2 => by
  rw [upd_ne (ne_of_none h2 h)]
  exact x a u h1 h2
theorem SameB.free {b l : Addr} {H H1 : Hp} (x : SameB b H H1) (n : l ≠ b) (h : H1 l = none) : H l = none := by
  cases q : H l with
  | none => rfl
  | some o =>
    rw [x l o n q] at h
    cases h
theorem upd_keep {H : Hp} {p a : Addr} {o u : HO} (h : H a = some u) (n : H p = none) : upd H p o a = some u := by
  rw [upd_ne (ne_of_none h n)]
  exact h
theorem upd_keepN {H : Hp} {p a : Addr} {o u : HO} (h : H a = some u) (n : a ≠ p) : upd H p o a = some u := by
  rw [upd_ne n]
  exact h
theorem same_get {H H' : Hp} {a : Addr} {o : HO} (s : Same H H') (h : H a = some o) : H' a = some o := s a o h
theorem sqT_of {K : PySem.W.Frag} {H : Hp} {a : Addr} {xs : List V} (h : H a = some (.tup xs)) : SqT K H a xs := Or.inl (Or.inl h)
theorem sqL_of {K : PySem.W.Frag} {H : Hp} {a : Addr} {xs : List V} (h : H a = some (.lst xs)) : SqL K H a xs := Or.inl (Or.inl h)
theorem Same.seqT {K : PySem.W.Frag} {H H' : Hp} {a : Addr} {xs : List V} (e : Same H H') (h : SqT K H a xs) : SqT K H' a xs := by
  rcases h with (h | ⟨o, h⟩) | h
  · exact .inl (.inl (e _ _ h))
  · exact .inl (.inr ⟨o, e _ _ h⟩)
  · exact .inr h

theorem iteBT {b : Bool} {A B : Prop} (h : b = true) (g : A) : if b = true then A else B := by rw [if_pos h]; exact g
theorem iteBF {b : Bool} {A B : Prop} (h : b = false) (g : B) : if b = true then A else B := by rw [if_neg (by simp [h])]; exact g
theorem iteD {c A B : Prop} [Decidable c] (h1 : c → A) (h2 : ¬ c → B) : if decide c = true then A else B := by
  by_cases h : c
  · rw [if_pos (decide_eq_true h)]; exact h1 h
  · rw [if_neg (by simp [h])]; exact h2 h
theorem iteN {c A B : Prop} [Decidable c] (h1 : ¬ c → A) (h2 : c → B) : if (!decide c) = true then A else B := by
  by_cases h : c
  · rw [if_neg (by simp [h])]; exact h2 h
  · rw [if_pos (by simp [h])]; exact h1 h
theorem div_ok {i j : Int} (h : 0 < j) (h2 : j ≤ 10000000000000000000000000000000000000000) : CDivW i j :=
  wide_div (b := 200) h (by omega) (by decide) (by decide)

/-- a constant of the module -/
theorem pgl {X : Cx} {x : Str} {pos : Pos} {v : V} (h : ∃ u, X.mg x = some u ∧ RelV v u) (hg : Gl X x := by rfl)
    (hd : (x == ("__debug__" : Str)) = false := by decide) : PE X (.Name x pos) (tC v) := by
  obtain ⟨u, h1, h2⟩ := h
  exact pe_glob hg h1 h2 hd

/-! ### built-in names that the module does not hide -/
structure Blt (mg : Str → Option Value) : Prop where
  b_len : mg "len" = none
  b_abs : mg "abs" = none
  b_int : mg "int" = none
  b_bool : mg "bool" = none
  b_str : mg "str" = none
  b_tuple : mg "tuple" = none
  b_list : mg "list" = none
  b_dict : mg "dict" = none
  b_set : mg "set" = none
  b_range : mg "range" = none
  b_zip : mg "zip" = none
  b_enumerate : mg "enumerate" = none
  b_all : mg "all" = none
  b_any : mg "any" = none
  b_sum : mg "sum" = none
  b_min : mg "min" = none
  b_max : mg "max" = none
  b_sorted : mg "sorted" = none
  b_repr : mg "repr" = none
  b_isinstance : mg "isinstance" = none

/-! ### the box of drawn numbers -/
def boxTop : Int := 10 ^ 240
def seedTop : Int := 2305843009213693951
structure BoxAt (H : Hp) (b : Addr) (N : Nat) : Prop where
  ex : ∃ o s n : Int, H b = some (.lst [.int o, .int s, .int n]) ∧ 0 ≤ o ∧ o < boxTop ∧ 0 ≤ s ∧ s < seedTop ∧ 0 ≤ n ∧ n ≤ (N : Int)
theorem BoxAt.mono {H : Hp} {b : Addr} {N M : Nat} (x : BoxAt H b N) (h : N ≤ M) : BoxAt H b M := by
  obtain ⟨o, s, n, h1, h2, h3, h4, h5, h6, h7⟩ := x.ex
  exact ⟨o, s, n, h1, h2, h3, h4, h5, h6, by omega⟩
theorem BoxAt.same {H H' : Hp} {b : Addr} {N : Nat} (x : BoxAt H b N) (s : Same H H') : BoxAt H' b N := by
  obtain ⟨o, r, n, h1, h⟩ := x.ex
  exact ⟨o, r, n, s _ _ h1, h⟩
def spTake : Sp := fun vs H Q _ => ∃ (b : Addr) (m : Int) (N : Nat), vs = [.ref b, .int m] ∧ BoxAt H b N ∧ N ≤ 2 ^ 60 ∧ 0 < m ∧ m ≤ 10000000000000000000000000000000000000000 ∧
  ∀ (r : Int) (H' : Hp), 0 ≤ r → r < m → BoxAt H' b (N + 1) → SameB b H H' → Q (.int r) H'
def spBox (K : PySem.W.Frag) : Sp := fun vs H Q _ => ∃ (a : Addr) (ns : List Int) (i : Nat), vs = [.ref a, .int (i : Int)] ∧ SqL K H a (ns.map V.int) ∧ i ≤ 100 ∧
  ∀ (b : Addr) (H' : Hp), H b = none → BoxAt H' b 0 → Same H H' → Q (.ref b) H'
end Ov

set_option maxHeartbeats 4000000
namespace Ov
open PySem PySem.Spec PyProof.Rows L2 RZ

/-! ### tuples, any slice and sum alike -/
theorem cutV_whole {xs : List V} {lo hi : Option Int} (h : HT.sIx xs.length 0 lo = 0 ∧ HT.sIx xs.length xs.length hi = xs.length) : cutV xs lo hi = xs := by
  unfold cutV
  rw [h.1, h.2]
  simp
theorem cutV_from {xs : List V} {v : Int} {i : Nat} (h : v = (i : Int)) : cutV xs (some v) none = xs.drop i := by
  subst h
  unfold cutV
  rw [HT.sIx_nat, HT.sIx_none]
  rcases Nat.le_total i xs.length with h | h
  · rw [Nat.min_eq_left h, List.take_of_length_le (by simp)]
  · rw [Nat.min_eq_right h, List.drop_eq_nil_of_le h, List.drop_eq_nil_of_le (Nat.le_refl _)]
    simp
theorem cutV_to {xs : List V} {v : Int} {j : Nat} (h : v = (j : Int)) : cutV xs none (some v) = xs.take j := by
  subst h
  unfold cutV
  rw [HT.sIx_nat, HT.sIx_none, List.drop_zero, Nat.sub_zero]
  rcases Nat.le_total j xs.length with h | h
  · rw [Nat.min_eq_left h]
  · rw [Nat.min_eq_right h, List.take_of_length_le (Nat.le_refl _), List.take_of_length_le h]
theorem cutV_mid {xs : List V} {u v : Int} {i j : Nat} (hu : u = (i : Int)) (hv : v = (j : Int)) : cutV xs (some u) (some v) = (xs.take j).drop i := by
  subst hu hv
  unfold cutV
  rw [HT.sIx_nat, HT.sIx_nat, List.drop_take]
  rcases Nat.le_total i xs.length with h | h
  · rw [Nat.min_eq_left h]
    rcases Nat.le_total j xs.length with h2 | h2
    · rw [Nat.min_eq_left h2]
    · rw [Nat.min_eq_right h2, List.take_of_length_le (by simp), List.take_of_length_le (by simp; omega)]
  · rw [Nat.min_eq_right h, List.drop_eq_nil_of_le h, List.drop_eq_nil_of_le (Nat.le_refl _)]
    simp
def rSlU (K : PySem.W.Frag) : V → Option Int → Option Int → Hp → VK → Prop := fun x lo hi H Q => ∃ a xs, x = .ref a ∧ SqT K H a xs ∧
  ∀ p H', Same H H' → SqT K H' p (cutV xs lo hi) → Q (.ref p) H'
theorem sl_tupU {X : Cx} : SlR X (rSlU X.K) := by
  intro pins s σ H x v vl vu lo hi sl Q I rx hs pl pu h
  obtain ⟨a, xs, e, hx, q⟩ := h
  refine sl_tupA pins s σ H x v vl vu lo hi sl Q I rx hs pl pu ⟨a, xs, e, hx, ?_, ?_⟩
  · intro hw
    exact q a H (Same.refl H) (by rw [cutV_whole hw]; exact hx)
  · intro _ p hp
    exact q p _ (same_new hp) (sqT_of upd_same)
def rCatU (K : PySem.W.Frag) : R2 := fun x y H Q => ∃ a b xs ys, x = .ref a ∧ y = .ref b ∧ SqT K H a xs ∧ SqT K H b ys ∧ xs.length + ys.length ≤ sizeLine ∧
  ∀ p H', Same H H' → SqT K H' p (xs ++ ys) → Q (.ref p) H'
theorem op_catU {X : Cx} : OpR X (binaryOp .Add) (rCatU X.K) := by
  intro pins s σ H x y v u Q I rx ry h
  obtain ⟨a, b, xs, ys, e1, e2, ha, hb, hz, q⟩ := h
  refine op_catA pins s σ H x y v u Q I rx ry ⟨a, b, xs, ys, e1, e2, ha, hb, hz, ?_, ?_, ?_⟩
  · intro hx
    exact q b H (Same.refl H) (by rw [hx]; exact hb)
  · intro _ hy
    exact q a H (Same.refl H) (by rw [hy, List.append_nil]; exact ha)
  · intro _ _ p hp
    exact q p _ (same_new hp) (sqT_of upd_same)

/-! ### walks -/
theorem walk_zipT {K : PySem.W.Frag} {a b : Addr} {xs ys : List V} {n : Nat} (hn : n = min xs.length ys.length) :
    Walk (ItzT K a b) n (fun H => SqT K H a xs ∧ SqT K H b ys) (YPair (fun i => xs[i]?) (fun i => ys[i]?)) := by
  subst hn
  refine ⟨?_, ?_, ?_⟩
  · intro i H hi q
    have h1 : i < xs.length := by omega
    have h2 : i < ys.length := by omega
    exact ⟨xs, ys, xs[i], ys[i], q.1, q.2, by simp [h1], by simp [h2]⟩
  · intro H q
    exact ⟨xs, ys, q.1, q.2, by omega⟩
  · intro i H v H' _ q y
    obtain ⟨T, x, y, h1, h2, h3, h4⟩ := y
    exact ⟨T, x, y, h1, h2, h3, h4.1 xs q.1, h4.2 ys q.2⟩

/-! ### comprehensions that only add to the heap -/
section
variable {J : It} {n : Nat} {G : Hp → Prop} {Y : Nat → Hp → V → Hp → Prop} {g : TG} {tt : TT} {te : TE} {vs : List Nat} {σ : L2.St} {H1 : Hp} {D : Addr} {Qd : Hp → Prop}
theorem same_lst {H H' : Hp} {D : Addr} {xs : List V} (s : Same H H') (h : H D = none) : Same H (upd H' D (.lst xs)) := fun a o e => by
  rw [upd_ne (ne_of_none e h)]
  exact s a o e
/-- each turn gives the value f i where c i holds -/
theorem lc_val (w : Walk J n G Y) (f : Nat → V) (c : Nat → Bool) (hD : H1 D = none) (hn : n ≤ sizeLine) (hG : ∀ H, Same H1 H → G H)
    (hs : ∀ i x H H' (R : V → Hp → Prop) (Rn : Hp → Prop), i < n → Same H1 H → Y i H x H' →
      (c i = true → ∀ H4, Same H H4 → R (f i) H4) → (c i = false → ∀ H3, Same H H3 → Rn H3) →
      g x (wipe σ vs) H' fun σ2 H2 => wipe σ2 vs = wipe σ vs ∧ tt σ2 H2 fun b H3 => if b = true then te σ2 H3 R else Rn H3)
    (hd : ∀ H, Same H1 H → H D = some (.lst (((List.range n).filter c).map f)) → Qd H) :
    ∃ W : Nat → Nat → Hp → Prop, (∃ m, W 0 m (upd H1 D (.lst []))) ∧ ∀ i m H, W i m H →
      (J.stop i H ∧ Qd H) ∨ (J.go i H ∧ ∃ Nx : Hp → Prop, (∀ H', Nx H' → ∃ m', m' < m ∧ W (i + 1) m' H') ∧ ∀ x H', J.yld i H x H' →
        g x (wipe σ vs) H' fun σ2 H2 => wipe σ2 vs = wipe σ vs ∧ tt σ2 H2 fun b H3 =>
        if b = true then te σ2 H3 fun y H4 => ∃ acc, H4 D = some (.lst acc) ∧ acc.length < sizeLine ∧ Nx (upd H4 D (.lst (acc ++ [y]))) else Nx H3) := by
  refine lc_it w (fun i H => Same H1 H ∧ H D = some (.lst (((List.range i).filter c).map f))) ⟨same_new hD, upd_same⟩ (fun i H _ p => hG H p.1) ?_
    (fun H p => hd H p.1 p.2)
  intro i x H H' hi p y
  refine hs i x H H' _ _ hi p.1 y ?_ ?_
  · intro hc H4 s4
    refine ⟨_, s4 _ _ p.2, ?_, same_lst (p.1.trans s4) hD, ?_⟩
    · have h1 : (((List.range i).filter c).map f).length ≤ i := by
        rw [List.length_map]
        exact Nat.le_trans (List.length_filter_le _ _) (by simp)
      omega
    · rw [upd_same, List.range_succ, List.filter_append]
      simp [hc]
  · intro hc H3 s3
    refine ⟨p.1.trans s3, ?_⟩
    rw [s3 _ _ p.2, List.range_succ, List.filter_append]
    simp [hc]
/-- without a test -/
theorem lc_map (w : Walk J n G Y) (f : Nat → V) (hD : H1 D = none) (hn : n ≤ sizeLine) (hG : ∀ H, Same H1 H → G H)
    (hs : ∀ i x H H' (R : V → Hp → Prop) (Rn : Hp → Prop), i < n → Same H1 H → Y i H x H' → (∀ H4, Same H H4 → R (f i) H4) →
      g x (wipe σ vs) H' fun σ2 H2 => wipe σ2 vs = wipe σ vs ∧ tt σ2 H2 fun b H3 => if b = true then te σ2 H3 R else Rn H3)
    (hd : ∀ H, Same H1 H → H D = some (.lst ((List.range n).map f)) → Qd H) :
    ∃ W : Nat → Nat → Hp → Prop, (∃ m, W 0 m (upd H1 D (.lst []))) ∧ ∀ i m H, W i m H →
      (J.stop i H ∧ Qd H) ∨ (J.go i H ∧ ∃ Nx : Hp → Prop, (∀ H', Nx H' → ∃ m', m' < m ∧ W (i + 1) m' H') ∧ ∀ x H', J.yld i H x H' →
        g x (wipe σ vs) H' fun σ2 H2 => wipe σ2 vs = wipe σ vs ∧ tt σ2 H2 fun b H3 =>
        if b = true then te σ2 H3 fun y H4 => ∃ acc, H4 D = some (.lst acc) ∧ acc.length < sizeLine ∧ Nx (upd H4 D (.lst (acc ++ [y]))) else Nx H3) := by
  refine lc_val w f (fun _ => true) hD hn hG ?_ ?_
  · intro i x H H' R Rn hi s y h1 h2
    exact hs i x H H' R Rn hi s y (h1 rfl)
  · intro H s h
    refine hd H s ?_
    rw [h, List.filter_eq_self.mpr (fun _ _ => rfl)]
end
end Ov

set_option linter.all false
namespace Ov
/-! ### sums of lengths and the table of least sums -/
inductive Sums (ls : List Nat) : Nat → Prop
  | zero : Sums ls 0
  | add {t a : Nat} : Sums ls t → a ∈ ls → Sums ls (t + a)
theorem Sums.mono {ls ms : List Nat} (h : ∀ a ∈ ls, a ∈ ms) {t : Nat} (s : Sums ls t) : Sums ms t := by
  induction s with
  | zero => exact .zero
  | add _ hm ih => exact .add ih (h _ hm)
theorem Sums.mul {ls : List Nat} {a : Nat} (ha : a ∈ ls) {t : Nat} (s : Sums ls t) : ∀ k : Nat, Sums ls (t + k * a)
  | 0 => by simpa using s
  | k + 1 => by
    have := Sums.add (Sums.mul ha s k) ha
    rwa [Nat.add_assoc, ← Nat.succ_mul] at this
theorem Sums.plus {ls : List Nat} {t u : Nat} (s : Sums ls t) (r : Sums ls u) : Sums ls (t + u) := by
  induction r with
  | zero => exact s
  | add _ hm ih => rw [← Nat.add_assoc]; exact .add ih hm
theorem sums_more {ls : List Nat} {L t : Nat} : Sums (ls ++ [L]) t ↔ ∃ s k, Sums ls s ∧ t = s + k * L := by
  constructor
  · intro h
    induction h with
    | zero => exact ⟨0, 0, .zero, by simp⟩
    | add _ hm ih =>
      obtain ⟨s, k, h1, rfl⟩ := ih
      rcases List.mem_append.mp hm with h2 | h2
      · exact ⟨_, k, .add h1 h2, by omega⟩
      · have := List.mem_singleton.mp h2
        subst this
        exact ⟨s, k + 1, h1, by rw [Nat.succ_mul]; omega⟩
  · rintro ⟨s, k, h1, rfl⟩
    exact Sums.mul (by simp) (h1.mono (by simp +contextual)) k

def EntOk (S : Nat → Prop) (m r : Nat) : Option Nat → Prop
  | none => ∀ s, S s → s % m ≠ r
  | some t => S t ∧ t % m = r ∧ ∀ s, S s → s % m = r → t ≤ s
structure AOk (S : Nat → Prop) (ls : List Nat) (lv av : List (Option Nat)) : Prop where
  len : av.length = lv.length
  som : ∀ r L : Nat, av[r]? = some (some L) → ∃ t, lv[r]? = some (some t) ∧ L ∈ ls ∧ L ≤ t ∧ S (t - L)
  has : ∀ r t : Nat, r ≠ 0 → lv[r]? = some (some t) → ∃ L, av[r]? = some (some L)
theorem AOk.mono {S S' : Nat → Prop} {ls ms : List Nat} {lv av : List (Option Nat)} (h : AOk S ls lv av) (hs : ∀ s, S s → S' s) (hl : ∀ a ∈ ls, a ∈ ms) : AOk S' ms lv av :=
  ⟨h.len, fun r L e => let ⟨t, h1, h2, h3, h4⟩ := h.som r L e; ⟨t, h1, hl _ h2, h3, hs _ h4⟩, h.has⟩
theorem AOk.set {S : Nat → Prop} {ls : List Nat} {lv av : List (Option Nat)} (h : AOk S ls lv av) {r t L : Nat} (hr : r < lv.length) (hL : L ∈ ls) (ht : L ≤ t) (hS : S (t - L)) :
    AOk S ls (lv.set r (some t)) (av.set r (some L)) := by
  refine ⟨by simp [h.len], ?_, ?_⟩
  · intro q M e
    rw [List.getElem?_set] at e
    rw [List.getElem?_set]
    by_cases hq : r = q
    · rw [if_pos hq] at e
      rw [if_pos hq, if_pos hr]
      rw [if_pos (by rw [h.len]; exact hr)] at e
      cases e
      exact ⟨t, rfl, hL, ht, hS⟩
    · rw [if_neg hq] at e
      rw [if_neg hq]
      exact h.som q M e
  · intro q u hq e
    rw [List.getElem?_set] at e
    rw [List.getElem?_set]
    by_cases hq : r = q
    · rw [if_pos hq, if_pos (by rw [h.len]; exact hr)]
      exact ⟨L, rfl⟩
    · rw [if_neg hq] at e
      rw [if_neg hq]
      exact h.has q u (by assumption) e
structure TabOk (ls : List Nat) (m : Nat) (lv av : List (Option Nat)) : Prop where
  len : lv.length = m
  ent : ∀ r, r < m → ∃ e, lv[r]? = some e ∧ EntOk (Sums ls) m r e
  add : AOk (Sums ls) ls lv av

/-! ### residues along a length -/
theorem bez (a b : Nat) : ∃ x y : Int, ((Nat.gcd a b : Nat) : Int) = (a : Int) * x + (b : Int) * y := by
  induction a, b using Nat.gcd.induction with
  | H0 n => exact ⟨0, 1, by simp⟩
  | H1 m n hm ih =>
    obtain ⟨x, y, e⟩ := ih
    refine ⟨y - (n / m : Nat) * x, x, ?_⟩
    rw [Nat.gcd_rec, e]
    have h : (n : Int) = (m : Int) * ((n / m : Nat) : Int) + ((n % m : Nat) : Int) := by exact_mod_cast (Nat.div_add_mod n m).symm
    generalize ((n / m : Nat) : Int) = q at *
    generalize ((n % m : Nat) : Int) = r at *
    rw [h, Int.mul_sub, Int.add_mul, Int.mul_assoc]
    omega
theorem bez_nat (L m : Nat) (hm : 0 < m) : ∃ i : Nat, (i * L) % m = Nat.gcd L m % m := by
  obtain ⟨x, y, e⟩ := bez L m
  refine ⟨(x % (m : Int)).toNat, ?_⟩
  have hx : 0 ≤ x % (m : Int) := Int.emod_nonneg _ (by omega)
  have h1 : (((x % (m : Int)).toNat : Nat) : Int) = x % (m : Int) := Int.toNat_of_nonneg hx
  have h2 : ((((x % (m : Int)).toNat * L) % m : Nat) : Int) = (((Nat.gcd L m) % m : Nat) : Int) := by
    rw [Int.natCast_emod, Int.natCast_mul, h1, Int.natCast_emod, e, Int.add_mul_emod_self_left, Int.mul_comm (L : Int), Int.mul_emod, Int.emod_emod, ← Int.mul_emod]
  exact_mod_cast h2
theorem add_mod_cancel {a b c m : Nat} (h : (a + c) % m = (b + c) % m) : a % m = b % m := by
  have h1 : ((a : Int) + c) % m = ((b : Int) + c) % m := by exact_mod_cast h
  have h2 := (Int.emod_add_cancel_right (c : Int)).mp h1
  exact_mod_cast h2
theorem add_mod_iff {a x m : Nat} : (a + x) % m = a % m ↔ m ∣ x := by
  constructor
  · intro h
    have := Nat.sub_mod_eq_zero_of_mod_eq h
    rw [Nat.add_sub_cancel_left] at this
    exact Nat.dvd_of_mod_eq_zero this
  · rintro ⟨k, rfl⟩
    rw [Nat.add_mul_mod_self_left]
theorem dvd_step {L m i : Nat} (hm : 0 < m) : m ∣ i * L ↔ m / Nat.gcd L m ∣ i := by
  have hg : 0 < Nat.gcd L m := Nat.gcd_pos_of_pos_right _ hm
  have e1 : m = m / Nat.gcd L m * Nat.gcd L m := (Nat.div_mul_cancel (Nat.gcd_dvd_right L m)).symm
  have e2 : L = L / Nat.gcd L m * Nat.gcd L m := (Nat.div_mul_cancel (Nat.gcd_dvd_left L m)).symm
  have co : (m / Nat.gcd L m).Coprime (L / Nat.gcd L m) := (Nat.coprime_div_gcd_div_gcd hg).symm
  generalize Nat.gcd L m = g at *
  generalize hn : m / g = n at *
  generalize hl : L / g = l at *
  subst e1 e2
  rw [← Nat.mul_assoc, Nat.mul_dvd_mul_iff_right hg]
  exact ⟨fun h => co.dvd_of_dvd_mul_right h, fun h => Nat.dvd_trans h (Nat.dvd_mul_right _ _)⟩
/-- the number of residues on a round -/
def rnd (L m : Nat) : Nat := m / Nat.gcd L m
theorem rnd_pos {L m : Nat} (hm : 0 < m) : 0 < rnd L m := Nat.div_pos (Nat.gcd_le_right _ hm) (Nat.gcd_pos_of_pos_right _ hm)
theorem rnd_le {L m : Nat} : rnd L m ≤ m := Nat.div_le_self _ _
theorem step_ne {L m a s t : Nat} (hm : 0 < m) (hst : s < t) (ht : t < s + rnd L m) : (a + t * L) % m ≠ (a + s * L) % m := by
  intro h
  have e : a + t * L = a + s * L + (t - s) * L := by
    have : t * L = s * L + (t - s) * L := by rw [← Nat.add_mul]; congr 1; omega
    omega
  rw [e, add_mod_iff, dvd_step hm] at h
  have := Nat.le_of_dvd (by omega) h
  unfold rnd at ht
  omega
theorem step_back {L m a : Nat} (hm : 0 < m) (k : Nat) : (a + k * rnd L m * L) % m = a % m := by
  rw [add_mod_iff, dvd_step hm]
  exact Nat.dvd_mul_left _ _
theorem step_mod {L m a : Nat} (hm : 0 < m) (i : Nat) : (a + i * L) % m = (a + (i % rnd L m) * L) % m := by
  have e : i * L = (i % rnd L m) * L + (i / rnd L m) * rnd L m * L := by
    rw [← Nat.add_mul]
    congr 1
    rw [Nat.mul_comm (i / rnd L m)]
    exact (Nat.mod_add_div _ _).symm
  rw [e, ← Nat.add_assoc]
  exact step_back hm _
/-- every residue of the class is met -/
theorem step_all {L m r : Nat} (hm : 0 < m) (hr : r < m) : ∃ i, i < rnd L m ∧ (r % Nat.gcd L m + i * L) % m = r := by
  obtain ⟨j, hj⟩ := bez_nat L m hm
  have h : (r % Nat.gcd L m + (r / Nat.gcd L m * j) * L) % m = r := by
    rw [Nat.mul_assoc, Nat.add_mod, Nat.mul_mod, hj, ← Nat.mul_mod, ← Nat.add_mod, Nat.mul_comm, Nat.mod_add_div, Nat.mod_eq_of_lt hr]
  exact ⟨(r / Nat.gcd L m * j) % rnd L m, Nat.mod_lt _ (rnd_pos hm), by rw [← step_mod hm]; exact h⟩
theorem step_class {L m a i : Nat} : (a + i * L) % m % Nat.gcd L m = a % Nat.gcd L m := by
  rw [Nat.mod_mod_of_dvd _ (Nat.gcd_dvd_right L m), add_mod_iff]
  exact Nat.dvd_trans (Nat.gcd_dvd_left L m) (Nat.dvd_mul_left _ _)
/-- from a on, going back k lengths is going forward -/
theorem step_from {L m a s k : Nat} (hm : 0 < m) (h : (s + k * L) % m = a % m) : ∃ i, i < rnd L m ∧ s % m = (a + i * L) % m := by
  refine ⟨(k * (rnd L m - 1)) % rnd L m, Nat.mod_lt _ (rnd_pos hm), ?_⟩
  rw [← step_mod hm, Nat.add_mod, ← h, ← Nat.add_mod]
  have hp := rnd_pos (L := L) hm
  have e : s + k * L + k * (rnd L m - 1) * L = s + k * rnd L m * L := by
    have : k * rnd L m = k + k * (rnd L m - 1) := by
      have h1 : rnd L m = 1 + (rnd L m - 1) := by omega
      rw [h1, Nat.mul_add, Nat.mul_one, Nat.add_sub_cancel_left]
    rw [this, Nat.add_mul]
    omega
  rw [e, step_back hm]

/-! ### going round -/
section
variable {ls : List Nat} {L m : Nat} {lv0 av0 : List (Option Nat)}
structure RInv (ls : List Nat) (L m a : Nat) (lv0 : List (Option Nat)) (t v : Nat) (lv av : List (Option Nat)) : Prop where
  len : lv.length = m
  cur : lv[(a + t * L) % m]? = some (some v)
  done : ∀ u, u ≤ t → ∃ e, lv[(a + u * L) % m]? = some e ∧ EntOk (Sums (ls ++ [L])) m ((a + u * L) % m) e
  rest : ∀ r, r < m → (∀ u, u ≤ t → (a + u * L) % m ≠ r) → lv[r]? = lv0[r]?
  add : AOk (Sums (ls ++ [L])) (ls ++ [L]) lv av
/-- the entries of the class of ρ are those of ls -/
def ClassOk (ls : List Nat) (L m p : Nat) (lv : List (Option Nat)) : Prop := ∀ r, r < m → r % Nat.gcd L m = p → ∃ e, lv[r]? = some e ∧ EntOk (Sums ls) m r e
theorem round_start (hm : 0 < m) {p a : Nat} (hl : lv0.length = m) (hp : p < Nat.gcd L m) (hc : ClassOk ls L m p lv0) (ha : AOk (Sums (ls ++ [L])) (ls ++ [L]) lv0 av0)
    (h1 : lv0[a % m]? = some (some a)) (h2 : a % Nat.gcd L m = p)
    (h3 : ∀ i, i < rnd L m → ∀ u, lv0[(p + i * L) % m]? = some (some u) → a ≤ u) : RInv ls L m a lv0 0 a lv0 av0 := by
  have hg : a % m % Nat.gcd L m = p := by rw [Nat.mod_mod_of_dvd _ (Nat.gcd_dvd_right L m)]; exact h2
  refine ⟨hl, by simpa using h1, ?_, fun _ _ _ => rfl, ha⟩
  intro u hu
  obtain rfl : u = 0 := by omega
  simp only [Nat.zero_mul, Nat.add_zero]
  obtain ⟨e, e1, e2⟩ := hc (a % m) (Nat.mod_lt _ hm) hg
  rw [h1] at e1
  cases e1
  refine ⟨_, h1, ?_, rfl, ?_⟩
  · exact sums_more.mpr ⟨a, 0, e2.1, by simp⟩
  · intro s hs hr
    obtain ⟨s0, k, g1, rfl⟩ := sums_more.mp hs
    obtain ⟨i, _, gi⟩ := step_from hm hr
    -- s0 is in the class
    have gc : s0 % m % Nat.gcd L m = p := by rw [gi, step_class]; exact h2
    obtain ⟨j, hj, gj⟩ := step_all (L := L) hm (Nat.mod_lt s0 hm)
    rw [gc] at gj
    obtain ⟨e, e1, e2⟩ := hc (s0 % m) (Nat.mod_lt _ hm) gc
    cases e with
    | none => exact absurd rfl (e2 s0 g1)
    | some u =>
      have := h3 j hj u (by rw [gj]; exact e1)
      have := e2.2.2 s0 g1 rfl
      omega
theorem round_none (hm : 0 < m) {p : Nat} {lv : List (Option Nat)} (hc : ClassOk ls L m p lv) (hn : ∀ i, i < rnd L m → ∀ u, lv[(p + i * L) % m]? ≠ some (some u)) :
    ∀ r, r < m → r % Nat.gcd L m = p → ∃ e, lv[r]? = some e ∧ EntOk (Sums (ls ++ [L])) m r e := by
  have key : ∀ q, q < m → q % Nat.gcd L m = p → lv[q]? = some none := by
    intro q hq hqc
    obtain ⟨i, hi, ei⟩ := step_all (L := L) hm hq
    rw [hqc] at ei
    obtain ⟨e, e1, _⟩ := hc q hq hqc
    cases e with
    | none => exact e1
    | some u => exact absurd (by rw [ei]; exact e1) (hn i hi u)
  intro r hr hrc
  refine ⟨none, key r hr hrc, ?_⟩
  intro s hs hsr
  obtain ⟨s0, k, g1, rfl⟩ := sums_more.mp hs
  obtain ⟨i, _, gi⟩ := step_from (a := r) hm (by rw [hsr, Nat.mod_eq_of_lt hr])
  have gc : s0 % m % Nat.gcd L m = p := by rw [gi, step_class]; exact hrc
  obtain ⟨e, e1, e2⟩ := hc (s0 % m) (Nat.mod_lt _ hm) gc
  rw [key _ (Nat.mod_lt _ hm) gc] at e1
  cases e1
  exact e2 s0 g1 rfl
theorem round_put (hm : 0 < m) {p a t v : Nat} {lv av : List (Option Nat)} (hc : ClassOk ls L m p lv0) (h2 : a % Nat.gcd L m = p) (ht : t + 1 < rnd L m) (I : RInv ls L m a lv0 t v lv av)
    (hn : ∀ u, lv[(v + L) % m]? = some (some u) → v + L < u) : RInv ls L m a lv0 (t + 1) (v + L) (lv.set ((v + L) % m) (some (v + L))) (av.set ((v + L) % m) (some L)) := by
  have hv : v % m = (a + t * L) % m := by
    obtain ⟨e, e1, e2⟩ := I.done t (Nat.le_refl t)
    rw [I.cur] at e1
    cases e1
    exact e2.2.1
  have hr : (v + L) % m = (a + (t + 1) * L) % m := by
    rw [Nat.add_mod, hv, ← Nat.add_mod, Nat.succ_mul, Nat.add_assoc]
  have hlt : (v + L) % m < lv.length := by rw [I.len]; exact Nat.mod_lt _ hm
  have hvS : Sums (ls ++ [L]) v := by
    obtain ⟨e, e1, e2⟩ := I.done t (Nat.le_refl t)
    rw [I.cur] at e1
    cases e1
    exact e2.1
  refine ⟨by simp [I.len], ?_, ?_, ?_, ?_⟩
  · rw [hr, List.getElem?_set, if_pos rfl, if_pos (by rw [← hr]; exact hlt)]
  · intro u hu
    by_cases hq : u = t + 1
    · subst hq
      rw [← hr]
      refine ⟨some (v + L), by rw [List.getElem?_set, if_pos rfl, if_pos hlt], .add hvS (by simp), rfl, ?_⟩
      intro s hs hsr
      obtain ⟨s0, k, g1, rfl⟩ := sums_more.mp hs
      cases k with
      | zero =>
        simp only [Nat.zero_mul, Nat.add_zero] at hsr ⊢
        have hnot : ∀ u, u ≤ t → (a + u * L) % m ≠ (v + L) % m := fun u hu => by rw [hr]; exact (step_ne hm (by omega) (by omega)).symm
        have e0 := I.rest _ (Nat.mod_lt (v + L) hm) hnot
        obtain ⟨e, e1, e2⟩ := hc ((v + L) % m) (Nat.mod_lt _ hm) (by rw [hr, step_class]; exact h2)
        cases e with
        | none => exact absurd hsr (e2 s0 g1)
        | some w =>
          have := hn w (by rw [e0]; exact e1)
          have := e2.2.2 s0 g1 hsr
          omega
      | succ k =>
        obtain ⟨e, e1, e2⟩ := I.done t (Nat.le_refl t)
        rw [I.cur] at e1
        cases e1
        have h5 : (s0 + k * L) % m = (a + t * L) % m := by
          rw [← hv]
          have h6 : (s0 + k * L + L) % m = (v + L) % m := by rw [← hsr, Nat.succ_mul, Nat.add_assoc]
          exact add_mod_cancel h6
        have := e2.2.2 (s0 + k * L) (sums_more.mpr ⟨s0, k, g1, rfl⟩) h5
        rw [Nat.succ_mul]
        omega
    · obtain ⟨e, e1, e2⟩ := I.done u (by omega)
      refine ⟨e, ?_, e2⟩
      rw [List.getElem?_set, if_neg ?_]
      · exact e1
      · rw [hr]
        exact step_ne hm (by omega) (by omega)
  · intro r hr2 hnr
    rw [List.getElem?_set, if_neg ?_]
    · exact I.rest r hr2 fun u hu => hnr u (by omega)
    · rw [hr]
      exact hnr (t + 1) (Nat.le_refl _)
  · exact I.add.set hlt (by simp) (by omega) (by rw [Nat.add_sub_cancel]; exact hvS)
theorem round_keep (hm : 0 < m) {p a t v u : Nat} {lv av : List (Option Nat)} (hc : ClassOk ls L m p lv0) (h2 : a % Nat.gcd L m = p) (ht : t + 1 < rnd L m) (I : RInv ls L m a lv0 t v lv av)
    (hu : lv[(v + L) % m]? = some (some u)) (hn : u ≤ v + L) : RInv ls L m a lv0 (t + 1) u lv av := by
  have hv : v % m = (a + t * L) % m := by
    obtain ⟨e, e1, e2⟩ := I.done t (Nat.le_refl t)
    rw [I.cur] at e1
    cases e1
    exact e2.2.1
  have hr : (v + L) % m = (a + (t + 1) * L) % m := by
    rw [Nat.add_mod, hv, ← Nat.add_mod, Nat.succ_mul, Nat.add_assoc]
  have hnot : ∀ u, u ≤ t → (a + u * L) % m ≠ (v + L) % m := fun u hu => by rw [hr]; exact (step_ne hm (by omega) (by omega)).symm
  refine ⟨I.len, by rw [← hr]; exact hu, ?_, fun r h3 h4 => I.rest r h3 fun q hq => h4 q (by omega), I.add⟩
  intro q hq
  by_cases hqt : q = t + 1
  · subst hqt
    rw [← hr]
    refine ⟨some u, hu, ?_⟩
    have e0 := I.rest _ (Nat.mod_lt (v + L) hm) hnot
    obtain ⟨e, e1, e2⟩ := hc ((v + L) % m) (Nat.mod_lt _ hm) (by rw [hr, step_class]; exact h2)
    rw [← e0, hu] at e1
    cases e1
    refine ⟨sums_more.mpr ⟨u, 0, e2.1, by simp⟩, e2.2.1, ?_⟩
    intro s hs hsr
    obtain ⟨s0, k, g1, rfl⟩ := sums_more.mp hs
    cases k with
    | zero =>
      simp only [Nat.zero_mul, Nat.add_zero] at hsr ⊢
      exact e2.2.2 s0 g1 hsr
    | succ k =>
      obtain ⟨e, f1, f2⟩ := I.done t (Nat.le_refl t)
      rw [I.cur] at f1
      cases f1
      have h5 : (s0 + k * L) % m = (a + t * L) % m := by
        rw [← hv]
        have h6 : (s0 + k * L + L) % m = (v + L) % m := by rw [← hsr, Nat.succ_mul, Nat.add_assoc]
        exact add_mod_cancel h6
      have := f2.2.2 (s0 + k * L) (sums_more.mpr ⟨s0, k, g1, rfl⟩) h5
      rw [Nat.succ_mul]
      omega
  · exact I.done q (by omega)
/-- behind the round: the class of p is that of ls and L, the others are as they were -/
theorem round_end (hm : 0 < m) {p a v : Nat} {lv av : List (Option Nat)} (h2 : a % Nat.gcd L m = p) (I : RInv ls L m a lv0 (rnd L m - 1) v lv av) :
    (∀ r, r < m → r % Nat.gcd L m = p → ∃ e, lv[r]? = some e ∧ EntOk (Sums (ls ++ [L])) m r e) ∧ (∀ r, r < m → r % Nat.gcd L m ≠ p → lv[r]? = lv0[r]?) := by
  have hp := rnd_pos (L := L) hm
  constructor
  · intro r hr hc
    obtain ⟨i, hi, ei⟩ := step_all (L := L) hm hr
    rw [hc] at ei
    -- r = p + iL, a = p + jL: r = a + (i + n - j)L
    obtain ⟨j, hj, ej⟩ := step_all (L := L) hm (Nat.mod_lt a hm)
    rw [Nat.mod_mod_of_dvd _ (Nat.gcd_dvd_right L m), h2] at ej
    have e : (a + (i + (rnd L m - j)) * L) % m = r := by
      rw [Nat.add_mod, ← ej, ← Nat.add_mod]
      have : p + j * L + (i + (rnd L m - j)) * L = p + i * L + 1 * rnd L m * L := by
        rw [Nat.one_mul, Nat.add_assoc, Nat.add_assoc, ← Nat.add_mul, ← Nat.add_mul]
        congr 2
        omega
      rw [this, step_back hm]
      exact ei
    rw [step_mod hm] at e
    have := I.done ((i + (rnd L m - j)) % rnd L m) (by have := Nat.mod_lt (i + (rnd L m - j)) hp; omega)
    rw [e] at this
    exact this
  · intro r hr hc
    refine I.rest r hr fun u _ e => hc ?_
    rw [← e, step_class]
    exact h2
end

/-! ### a table answers -/
theorem tab_first {m : Nat} (hm : 0 < m) : TabOk [m] m ((List.replicate m none).set 0 (some 0)) (List.replicate m none) := by
  have key : ∀ {s}, Sums [m] s → s % m = 0 := by
    intro s h
    induction h with
    | zero => simp
    | add _ h ih =>
      have := List.mem_singleton.mp h
      subst this
      rw [Nat.add_mod_right]
      exact ih
  refine ⟨by simp, ?_, ?_⟩
  · intro r hr
    rw [List.getElem?_set]
    by_cases h : 0 = r
    · subst h
      rw [if_pos rfl, if_pos (by simpa using hm)]
      exact ⟨_, rfl, .zero, by simp, fun s _ _ => Nat.zero_le s⟩
    · rw [if_neg h, List.getElem?_replicate, if_pos hr]
      exact ⟨_, rfl, fun s hs e => h (by rw [← e, key hs])⟩
  · refine ⟨by simp, ?_, ?_⟩
    · intro r L e
      rw [List.getElem?_replicate] at e
      split at e <;> cases e
    · intro r t hr e
      rw [List.getElem?_set, if_neg (fun z => hr z.symm), List.getElem?_replicate] at e
      split at e <;> cases e
theorem tab_has {ls : List Nat} {m t : Nat} {lv av : List (Option Nat)} (T : TabOk ls m lv av) (hm : m ∈ ls) (h0 : 0 < m) :
    Sums ls t ↔ ∃ u, lv[t % m]? = some (some u) ∧ u ≤ t := by
  obtain ⟨e, e1, e2⟩ := T.ent (t % m) (Nat.mod_lt _ h0)
  constructor
  · intro h
    cases e with
    | none => exact absurd rfl (e2 t h)
    | some u => exact ⟨u, e1, e2.2.2 t h rfl⟩
  · rintro ⟨u, h1, h2⟩
    rw [h1] at e1
    cases e1
    have : t = u + (t - u) / m * m := by
      have hd : m ∣ t - u := Nat.dvd_of_mod_eq_zero (Nat.sub_mod_eq_zero_of_mod_eq e2.2.1.symm)
      rw [Nat.div_mul_cancel hd]
      omega
    rw [this]
    exact Sums.mul hm e2.1 _
end Ov

set_option linter.all false
namespace Ov
/-! ### divisors -/
def gcdL (ls : List Nat) : Nat := ls.foldl Nat.gcd 0
theorem gcd_fold_dvd : ∀ (ls : List Nat) (a : Nat), ls.foldl Nat.gcd a ∣ a ∧ ∀ x ∈ ls, ls.foldl Nat.gcd a ∣ x
  | [], a => ⟨Nat.dvd_refl a, fun x h => absurd h List.not_mem_nil⟩
  | y :: ls, a => by
    have ih := gcd_fold_dvd ls (Nat.gcd a y)
    refine ⟨Nat.dvd_trans ih.1 (Nat.gcd_dvd_left a y), ?_⟩
    intro x hx
    rcases List.mem_cons.mp hx with rfl | hx
    · exact Nat.dvd_trans ih.1 (Nat.gcd_dvd_right a x)
    · exact ih.2 x hx
theorem dvd_gcd_fold : ∀ (ls : List Nat) (a d : Nat), d ∣ a → (∀ x ∈ ls, d ∣ x) → d ∣ ls.foldl Nat.gcd a
  | [], a, d, h, _ => h
  | y :: ls, a, d, h, h2 => dvd_gcd_fold ls _ d (Nat.dvd_gcd h (h2 y (List.mem_cons_self ..))) fun x hx => h2 x (List.mem_cons_of_mem _ hx)
theorem gcdL_dvd {ls : List Nat} {x : Nat} (h : x ∈ ls) : gcdL ls ∣ x := (gcd_fold_dvd ls 0).2 x h
theorem dvd_gcdL {ls : List Nat} {d : Nat} (h : ∀ x ∈ ls, d ∣ x) : d ∣ gcdL ls := dvd_gcd_fold ls 0 d (Nat.dvd_zero d) h
theorem gcdL_pos {ls : List Nat} {x : Nat} (h : x ∈ ls) (hx : 0 < x) : 0 < gcdL ls := Nat.pos_of_dvd_of_pos (gcdL_dvd h) hx

/-! ### a least sum is below m times the greatest length -/
theorem sums_list {ls : List Nat} {t : Nat} : Sums ls t ↔ ∃ as : List Nat, (∀ a ∈ as, a ∈ ls) ∧ as.sum = t := by
  constructor
  · intro h
    induction h with
    | zero => exact ⟨[], fun a h => absurd h List.not_mem_nil, rfl⟩
    | @add t a _ hm ih =>
      obtain ⟨as, h1, h2⟩ := ih
      refine ⟨a :: as, ?_, by rw [List.sum_cons, h2, Nat.add_comm]⟩
      intro x hx
      rcases List.mem_cons.mp hx with rfl | hx
      · exact hm
      · exact h1 x hx
  · rintro ⟨as, h1, rfl⟩
    induction as with
    | nil => exact .zero
    | cons a as ih =>
      rw [List.sum_cons, Nat.add_comm]
      exact .add (ih fun x hx => h1 x (List.mem_cons_of_mem _ hx)) (h1 a (List.mem_cons_self ..))
theorem nodup_below : ∀ (m : Nat) (l : List Nat), l.Nodup → (∀ x ∈ l, x < m) → l.length ≤ m
  | 0, l, _, h => by
    cases l with
    | nil => exact Nat.le_refl 0
    | cons a r => exact absurd (h a (List.mem_cons_self ..)) (Nat.not_lt_zero a)
  | m + 1, l, hn, h => by
    have h1 := nodup_below m (l.erase m) (hn.erase m) (fun x hx => by
      have h2 := (List.Nodup.mem_erase_iff hn).mp hx
      have := h x h2.2
      have := h2.1
      omega)
    have h2 : l.length ≤ (l.erase m).length + 1 := by
      rw [List.length_erase]
      split <;> omega
    omega
theorem pigeon {m : Nat} (f : Nat → Nat) (hf : ∀ i, f i < m) : ∃ i j, i < j ∧ j ≤ m ∧ f i = f j := by
  refine Classical.byContradiction fun hno => ?_
  have hnd : ((List.range (m + 1)).map f).Nodup := by
    rw [List.Nodup, List.pairwise_map]
    have h1 := List.pairwise_lt_range (n := m + 1)
    refine h1.imp_of_mem ?_
    intro a b ha hb hab e
    exact hno ⟨a, b, hab, by have := List.mem_range.mp hb; omega, e⟩
  have := nodup_below m _ hnd (fun x hx => by
    obtain ⟨i, _, rfl⟩ := List.mem_map.mp hx
    exact hf i)
  rw [List.length_map, List.length_range] at this
  omega
theorem sum_le_mul : ∀ {as : List Nat} {M : Nat}, (∀ a ∈ as, a ≤ M) → as.sum ≤ as.length * M
  | [], M, _ => by simp
  | a :: as, M, h => by
    have h1 := h a (List.mem_cons_self ..)
    have h2 := sum_le_mul (as := as) fun x hx => h x (List.mem_cons_of_mem _ hx)
    rw [List.sum_cons, List.length_cons, Nat.succ_mul]
    omega
theorem sum_pos_of {as : List Nat} (h : ∀ a ∈ as, 1 ≤ a) (hl : 0 < as.length) : 0 < as.sum := by
  cases as with
  | nil => exact absurd hl (Nat.lt_irrefl 0)
  | cons a as =>
    have := h a (List.mem_cons_self ..)
    rw [List.sum_cons]
    omega
theorem least_bound {ls : List Nat} {m M t r : Nat} (hm : 0 < m) (hp : ∀ x ∈ ls, 1 ≤ x) (hM : ∀ x ∈ ls, x ≤ M) (h : EntOk (Sums ls) m r (some t)) : t ≤ (m - 1) * M := by
  obtain ⟨as, h1, h2⟩ := sums_list.mp h.1
  have hlen : as.length < m := by
    refine Classical.byContradiction fun hno => ?_
    obtain ⟨i, j, hij, hjm, e⟩ := pigeon (m := m) (fun k => (as.take k).sum % m) (fun k => Nat.mod_lt _ hm)
    have e : (as.take i).sum % m = (as.take j).sum % m := e
    have hj : j ≤ as.length := by omega
    have hsplit : as.sum = (as.take j).sum + (as.drop j).sum := by rw [← List.sum_append, List.take_append_drop]
    have hsplit2 : (as.take j).sum = (as.take i).sum + ((as.take j).drop i).sum := by
      have h5 : (as.take j).take i = as.take i := by rw [List.take_take, Nat.min_eq_left (by omega)]
      rw [← h5, ← List.sum_append, List.take_append_drop]
    have hpos : 0 < ((as.take j).drop i).sum := by
      refine sum_pos_of (fun a ha => hp a (h1 a (List.mem_of_mem_take (List.mem_of_mem_drop ha)))) ?_
      rw [List.length_drop, List.length_take]
      omega
    have hS : Sums ls ((as.take i).sum + (as.drop j).sum) := by
      refine sums_list.mpr ⟨as.take i ++ as.drop j, ?_, by rw [List.sum_append]⟩
      intro a ha
      rcases List.mem_append.mp ha with ha | ha
      · exact h1 a (List.mem_of_mem_take ha)
      · exact h1 a (List.mem_of_mem_drop ha)
    have hr : ((as.take i).sum + (as.drop j).sum) % m = r := by
      rw [Nat.add_mod, e, ← Nat.add_mod, ← hsplit, h2]
      exact h.2.1
    have := h.2.2 _ hS hr
    omega
  have h3 : as.sum ≤ as.length * M := sum_le_mul fun a ha => hM a (h1 a ha)
  have h4 : as.length * M ≤ (m - 1) * M := Nat.mul_le_mul_right M (by omega)
  omega
/-- entries of one class are one -/
theorem ent_unique {S : Nat → Prop} {m r : Nat} : ∀ {e f : Option Nat}, EntOk S m r e → EntOk S m r f → e = f
  | none, none, _, _ => rfl
  | none, some u, h, g => absurd g.2.1 (h u g.1)
  | some t, none, h, g => absurd h.2.1 (g t h.1)
  | some t, some u, h, g => by
    have h1 := h.2.2 u g.1 g.2.1
    have h2 := g.2.2 t h.1 h.2.1
    have : t = u := by omega
    rw [this]
theorem tab_unique {ls : List Nat} {m : Nat} {lv lw : List (Option Nat)} (h1 : lv.length = m) (h2 : lw.length = m) (e1 : ∀ r, r < m → ∃ e, lv[r]? = some e ∧ EntOk (Sums ls) m r e)
    (e2 : ∀ r, r < m → ∃ e, lw[r]? = some e ∧ EntOk (Sums ls) m r e) : lv = lw := by
  refine List.ext_getElem? fun r => ?_
  by_cases hr : r < m
  · obtain ⟨e, g1, g2⟩ := e1 r hr
    obtain ⟨f, g3, g4⟩ := e2 r hr
    rw [g1, g3, ent_unique g2 g4]
  · rw [List.getElem?_eq_none (by omega), List.getElem?_eq_none (by omega)]
/-! ### finding least sums by going up -/
def EntLt (S : Nat → Prop) (m r i : Nat) : Option Nat → Prop
  | none => ∀ s, s < i → S s → s % m ≠ r
  | some t => S t ∧ t % m = r ∧ ∀ s, S s → s % m = r → t ≤ s
theorem entlt_skip {S : Nat → Prop} {m r i : Nat} (h : ¬ (S i ∧ i % m = r)) : ∀ {e : Option Nat}, EntLt S m r i e → EntLt S m r (i + 1) e
  | none, g => fun s hs hS => by
    by_cases e : s = i
    · subst e
      exact fun e => h ⟨hS, e⟩
    · exact g s (by omega) hS
  | some _, g => g
theorem entlt_keep {S : Nat → Prop} {m r i t : Nat} (g : EntLt S m r i (some t)) : EntLt S m r (i + 1) (some t) := g
theorem entlt_new {S : Nat → Prop} {m i : Nat} (hS : S i) (g : EntLt S m (i % m) i none) : EntLt S m (i % m) (i + 1) (some i) := by
  refine ⟨hS, rfl, ?_⟩
  intro s hs hr
  refine Nat.le_of_not_lt fun h => g s h hs hr
theorem least_exists {S : Nat → Prop} {m r : Nat} : ∀ s, S s → s % m = r → ∃ t, EntOk S m r (some t) := by
  intro s
  induction s using Nat.strongRecOn with
  | ind s ih =>
    intro hs hr
    by_cases h : ∃ u, u < s ∧ S u ∧ u % m = r
    · obtain ⟨u, h1, h2, h3⟩ := h
      exact ih u h1 h2 h3
    · refine ⟨s, hs, hr, ?_⟩
      intro u hu hur
      refine Nat.le_of_not_lt fun hlt => h ⟨u, hlt, hu, hur⟩
theorem entlt_end {ls : List Nat} {m M r i : Nat} (hm : 0 < m) (hp : ∀ x ∈ ls, 1 ≤ x) (hM : ∀ x ∈ ls, x ≤ M) (hi : (m - 1) * M < i) : ∀ {e : Option Nat}, EntLt (Sums ls) m r i e → EntOk (Sums ls) m r e
  | none, g => fun s hs hr => by
    obtain ⟨t, ht⟩ := least_exists s hs hr
    have := least_bound hm hp hM ht
    exact g t (by omega) ht.1 ht.2.1
  | some _, g => g
end Ov

set_option maxHeartbeats 4000000
namespace Ov
open PySem PySem.Spec PyProof.Rows L2 RZ

theorem le_line {n : Nat} (h : n ≤ 100000) : n ≤ sizeLine := Nat.le_trans h (by decide)
theorem lt_line {n : Nat} (h : n ≤ 100000) : n < sizeLine := Nat.lt_of_le_of_lt h (by decide)
theorem get_map {α : Type} {g : α → V} {ns : List α} {i : Nat} {x : V} (h : (ns.map g)[i]? = some x) : ∃ n, ns[i]? = some n ∧ x = g n := by
  rw [List.getElem?_map] at h
  cases e : ns[i]? with
  | none => rw [e] at h; cases h
  | some n => rw [e] at h; exact ⟨n, rfl, (Option.some.inj h).symm⟩

/-! ### isinstance with a built-in class -/
inductive Kd | non | bl | int | str | lst | tup | dic
instance : Plain Kd := ⟨trivial⟩
def Kd.ty : Kd → String
  | .non => "NoneType" | .bl => "bool" | .int => "int" | .str => "str" | .lst => "list" | .tup => "tuple" | .dic => "dict"
def Kd.isInt : Kd → Bool | .int => true | .bl => true | _ => false
def Kd.isBool : Kd → Bool | .bl => true | _ => false
def Kd.isStr : Kd → Bool | .str => true | _ => false
def Kd.isTuple : Kd → Bool | .tup => true | _ => false
def Kd.isList : Kd → Bool | .lst => true | _ => false
def Kd.isDict : Kd → Bool | .dic => true | _ => false
inductive HasKd (K : PySem.W.Frag) (H : Hp) : V → Kd → Prop
  | non : HasKd K H .non .non
  | bl (b : Bool) : HasKd K H (.bl b) .bl
  | int (i : Int) : HasKd K H (.int i) .int
  | str (x : Str) : HasKd K H (.str x) .str
  | lst {a : Addr} {xs : List V} (h : SqL K H a xs) : HasKd K H (.ref a) .lst
  | tup {a : Addr} {xs : List V} (h : SqT K H a xs) : HasKd K H (.ref a) .tup
  | dic {a : Addr} {kvs : List (Key × V)} (h : H a = some (.dK kvs)) : HasKd K H (.ref a) .dic
theorem HasKd.tyx {K : PySem.W.Frag} {H : Hp} {v : V} {k : Kd} (h : HasKd K H v k) : TyX K H v (.type k.ty) := by
  cases h with
  | non => exact .base .non
  | bl b => exact .base (.bl b)
  | int i => exact .base (.int i)
  | str x => exact .base (.str x)
  | lst h =>
    rcases h with (h | ⟨o, h⟩) | ⟨o, its, n, h1, h2, _⟩
    · exact .base (.lst h)
    · exact .base (.frz h)
    · exact .kList h1 h2
  | tup h =>
    rcases h with (h | ⟨o, h⟩) | ⟨o, its, n, h1, h2, _⟩
    · exact .base (.tup h)
    · exact .fTuple h
    · exact .kTuple h1 h2
  | dic h => exact .base (.dK h)
theorem HasKd.same {K : PySem.W.Frag} {H H' : Hp} {v : V} {k : Kd} (s : Same H H') (h : HasKd K H v k) : HasKd K H' v k := by
  cases h with
  | non => exact .non
  | bl b => exact .bl b
  | int i => exact .int i
  | str x => exact .str x
  | lst h => exact .lst (s.seq h)
  | tup h => exact .tup (Same.seqT s h)
  | dic h => exact .dic (s _ _ h)
def rIsa (K : PySem.W.Frag) (T : String) (f : Kd → Bool) : List V → Hp → VK → Prop := fun xs H Q => ∃ x k, xs = [x, .ty T] ∧ HasKd K H x k ∧ Q (.bl (f k)) H
theorem isa_mk {X : Cx} {T : String} {f : Kd → Bool} (h : ∀ k : Kd, kitB k.ty T = some (f k)) : CallR X (.builtin "isinstance") (rIsa X.K T f) := by
  intro pins s σ H xs us Q I r hq
  obtain ⟨x, k, rfl, hk, q⟩ := hq
  exact call_isi pins s σ H _ us Q I r ⟨x, .ty T, .type k.ty, .type T, f k, rfl, .ty T, hk.tyx, kit_ty (h k), q⟩
theorem isa_int {X : Cx} : CallR X (.builtin "isinstance") (rIsa X.K "int" Kd.isInt) := isa_mk fun k => by cases k <;> decide +kernel
theorem isa_bool {X : Cx} : CallR X (.builtin "isinstance") (rIsa X.K "bool" Kd.isBool) := isa_mk fun k => by cases k <;> decide +kernel
theorem isa_str {X : Cx} : CallR X (.builtin "isinstance") (rIsa X.K "str" Kd.isStr) := isa_mk fun k => by cases k <;> decide +kernel
theorem isa_tuple {X : Cx} : CallR X (.builtin "isinstance") (rIsa X.K "tuple" Kd.isTuple) := isa_mk fun k => by cases k <;> decide +kernel
theorem isa_list {X : Cx} : CallR X (.builtin "isinstance") (rIsa X.K "list" Kd.isList) := isa_mk fun k => by cases k <;> decide +kernel
theorem isa_dict {X : Cx} : CallR X (.builtin "isinstance") (rIsa X.K "dict" Kd.isDict) := isa_mk fun k => by cases k <;> decide +kernel

theorem ix_of {n : Nat} {z : Int} {j : Nat} (e : z = (j : Int)) (h : j < n) : ixN n z = some j := by
  subst e
  unfold ixN
  rw [if_pos (by omega), if_pos (by omega)]
  simp
/-! ### what the small defs promise -/
/-- a natural number as a value, one that may lack -/
def nV (n : Nat) : V := .int (n : Int)
def oV : Option Nat → V
  | none => .non
  | some n => .int (n : Int)
def LensOk (ls : List Nat) : Prop := ls.length ≤ 50 ∧ (∀ x ∈ ls, 1 ≤ x ∧ x ≤ 1000) ∧ ls.Pairwise (· < ·)
def spCheckLens (K : PySem.W.Frag) : Sp := fun vs H Q _ => ∃ (a : Addr) (ls : List Nat), vs = [.ref a] ∧ SqT K H a (ls.map nV) ∧ LensOk ls ∧ ∀ H', Same H H' → Q .non H'
def spGcd : Sp := fun vs H Q _ => ∃ m n : Nat, vs = [.int (m : Int), .int (n : Int)] ∧ Q (.int ((Nat.gcd m n : Nat) : Int)) H

def isIntV : V → Int → Int → Bool
  | .int i, lo, hi => decide (lo ≤ i) && decide (i ≤ hi)
  | _, _, _ => false
def spIsInteger (K : PySem.W.Frag) : Sp := fun vs H Q _ => ∃ (v : V) (lo hi : Int) (k : Kd), vs = [v, .int lo, .int hi] ∧ HasKd K H v k ∧ Q (.bl (isIntV v lo hi)) H
/-- ascending, without duplicates -/
def asc : List Int → Bool
  | [] => true
  | [_] => true
  | a :: b :: r => decide (a < b) && asc (b :: r)
theorem asc_iff : ∀ ns : List Int, asc ns = true ↔ ns.Pairwise (· < ·)
  | [] => by simp [asc]
  | [a] => by simp [asc]
  | a :: b :: r => by
    have ih := asc_iff (b :: r)
    simp only [asc, Bool.and_eq_true, decide_eq_true_eq, ih, List.pairwise_cons]
    constructor
    · rintro ⟨h1, h2, h3⟩
      refine ⟨?_, h2, h3⟩
      intro c hc
      rcases List.mem_cons.mp hc with rfl | hc
      · exact h1
      · exact Int.lt_trans h1 (h2 c hc)
    · rintro ⟨h1, h2, h3⟩
      exact ⟨h1 b (List.mem_cons_self ..), h2, h3⟩
theorem asc_range : ∀ ns : List Int, asc ns = ((List.range (ns.length - 1)).map fun i => decide (ns.getD i 0 < ns.getD (i + 1) 0)).all id
  | [] => by simp [asc]
  | [a] => by simp [asc]
  | a :: b :: r => by
    have ih := asc_range (b :: r)
    simp only [asc, ih, List.length_cons]
    rw [show r.length + 1 + 1 - 1 = (r.length + 1 - 1) + 1 by omega, List.range_succ_eq_map]
    simp [List.map_map, Function.comp_def]
def spAsc (K : PySem.W.Frag) : Sp := fun vs H Q _ => ∃ (a : Addr) (ns : List Int), vs = [.ref a] ∧ SqT K H a (ns.map V.int) ∧ ns.length ≤ 100000 ∧
  ∀ H', Same H H' → Q (.bl (asc ns)) H'

/-! ### SumTable -/
/-- what the walk asks of the class -/
structure TabTxt (K : PySem.W.Frag) (mg : Str → Option Value) (C : Addr) : Prop where
  cl : Cls K C
  nM : NoAttr K C "modulus"
  nL : NoAttr K C "least"
  nA : NoAttr K C "added"
structure TabFs (m : Nat) (l a : Addr) (fs : List (Str × V)) : Prop where
  fM : fs.lookup ("modulus" : Str) = some (.int (m : Int))
  fL : fs.lookup ("least" : Str) = some (.ref l)
  fA : fs.lookup ("added" : Str) = some (.ref a)
  n1 : fs.lookup ("add_length" : Str) = none
  n2 : fs.lookup ("go_round" : Str) = none
  n3 : fs.lookup ("has" : Str) = none
/-- a table at p, its lists at l and a -/
structure TabAt (C : Addr) (H : Hp) (p l a : Addr) (m : Nat) (lv av : List (Option Nat)) : Prop where
  ob : ∃ dx fs, H p = some (.ins C dx fs) ∧ TabFs m l a fs
  hl : H l = some (.lst (lv.map oV))
  ha : H a = some (.lst (av.map oV))
  ne : l ≠ a
theorem TabAt.same {C : Addr} {H H' : Hp} {p l a : Addr} {m : Nat} {lv av : List (Option Nat)} (t : TabAt C H p l a m lv av) (s : Same H H') : TabAt C H' p l a m lv av := by
  obtain ⟨⟨dx, fs, h1, h2⟩, h3, h4, h5⟩ := t
  exact ⟨⟨dx, fs, s _ _ h1, h2⟩, s _ _ h3, s _ _ h4, h5⟩
/-- what stands elsewhere is kept -/
def Same2 (l a : Addr) (H H' : Hp) : Prop := ∀ b o, b ≠ l → b ≠ a → H b = some o → H' b = some o
def spRound (C : Addr) : Sp := fun vs H Q _ => ∃ (p l a : Addr) (r L m : Nat) (ls : List Nat) (lv av : List (Option Nat)), vs = [.ref p, .int (r : Int), .int (L : Int)] ∧
  TabAt C H p l a m lv av ∧ 0 < m ∧ m ≤ 1000 ∧ 0 < L ∧ L ≤ 1000 ∧ r < Nat.gcd L m ∧ lv.length = m ∧ ClassOk ls L m r lv ∧ AOk (Sums (ls ++ [L])) (ls ++ [L]) lv av ∧
  ∀ lv' av' H', lv'.length = m → (∀ q, q < m → q % Nat.gcd L m = r → ∃ e, lv'[q]? = some e ∧ EntOk (Sums (ls ++ [L])) m q e) →
    (∀ q, q < m → q % Nat.gcd L m ≠ r → lv'[q]? = lv[q]?) → AOk (Sums (ls ++ [L])) (ls ++ [L]) lv' av' →
    TabAt C H' p l a m lv' av' → Same2 l a H H' → Q .non H'
end Ov

set_option maxHeartbeats 4000000
namespace Ov
open PySem PySem.Spec PyProof.Rows L2 RZ

/-! ### the rules with the written part named (a comprehension's block has the same) -/
section
variable {X : Cx}
theorem k_ixL (K : PySem.W.Frag) (h : X.K = K := by rfl) : IxR X (rIxL K) := h ▸ ix_list
theorem k_ixT (K : PySem.W.Frag) (h : X.K = K := by rfl) : IxR X (rIxT K) := h ▸ ix_tup
theorem k_in (K : PySem.W.Frag) (h : X.K = K := by rfl) : OpR X (compareOp .In) (rIn K false) := h ▸ op_in_seq
theorem k_notIn (K : PySem.W.Frag) (h : X.K = K := by rfl) : OpR X (compareOp .NotIn) (rIn K true) := h ▸ op_notIn_seq
theorem k_slL (K : PySem.W.Frag) (h : X.K = K := by rfl) : SlR X (rSlL K) := h ▸ sl_list
theorem k_slT (K : PySem.W.Frag) (h : X.K = K := by rfl) : SlR X (rSlU K) := h ▸ sl_tupU
theorem k_catT (K : PySem.W.Frag) (h : X.K = K := by rfl) : OpR X (binaryOp .Add) (rCatU K) := h ▸ op_catU
theorem k_eqD (K : PySem.W.Frag) (hu : X.A.units + 64 < cLine) (h : X.K = K := by rfl) : OpR X (compareOp .Eq) (rEqD K) := h ▸ op_eqD hu
theorem k_neD (K : PySem.W.Frag) (hu : X.A.units + 64 < cLine) (h : X.K = K := by rfl) : OpR X (compareOp .NotEq) (rNeD K) := h ▸ op_neD hu
def rLenS (K : PySem.W.Frag) : List V → Hp → VK → Prop := fun xs H Q => ∃ p ys, xs = [.ref p] ∧ (SqL K H p ys ∨ SqT K H p ys) ∧ Q (.int (ys.length : Int)) H
theorem k_len (K : PySem.W.Frag) (h : X.K = K := by rfl) : CallR X (.builtin "len") (rLenS K) := h ▸ call_len_seq
theorem k_all (K : PySem.W.Frag) (hc : X.calm = true := by rfl) (h : X.K = K := by rfl) : CallR X (.builtin "all") (rAll K) := h ▸ cr_all hc
theorem k_any (K : PySem.W.Frag) (hc : X.calm = true := by rfl) (h : X.K = K := by rfl) : CallR X (.builtin "any") (rAny K) := h ▸ cr_any hc
theorem k_sum (K : PySem.W.Frag) (hc : X.calm = true := by rfl) (h : X.K = K := by rfl) : CallR X (.builtin "sum") (rSum K) := h ▸ cr_sum hc
theorem k_min (K : PySem.W.Frag) (hc : X.calm = true := by rfl) (h : X.K = K := by rfl) : CallR X (.builtin "min") (rMin K) := h ▸ cr_min hc
theorem k_max (K : PySem.W.Frag) (hc : X.calm = true := by rfl) (h : X.K = K := by rfl) : CallR X (.builtin "max") (rMax K) := h ▸ cr_max hc
theorem k_sorted (K : PySem.W.Frag) (h : X.K = K := by rfl) : CallR X (.builtin "sorted") (rSortedI K) := h ▸ cr_sortedI
def rTupU (K : PySem.W.Frag) : List V → Hp → VK → Prop := fun xs H Q => ∃ p ys, xs = [.ref p] ∧ (SqL K H p ys ∨ SqT K H p ys) ∧ ∀ q H', Same H H' → SqT K H' q ys → Q (.ref q) H'
theorem k_tuple (K : PySem.W.Frag) (h : X.K = K := by rfl) : CallR X (.type "tuple") (rTupU K) := by
  subst h
  intro pins s σ H xs us Q I r hq
  obtain ⟨p, ys, e, hs, q⟩ := hq
  refine call_tuple_of pins s σ H xs us Q I r ⟨p, ys, e, ?_⟩
  rcases hs with hs | hs
  · exact .inl ⟨hs, fun l hl => q l _ (same_new hl) (sqT_of upd_same)⟩
  · exact .inr ⟨hs, q p H (Same.refl H) hs⟩
def rListU (K : PySem.W.Frag) : List V → Hp → VK → Prop := fun xs H Q => ∃ p ys, xs = [.ref p] ∧ (SqL K H p ys ∨ SqT K H p ys) ∧ ∀ l, H l = none → Q (.ref l) (upd H l (.lst ys))
theorem k_list (K : PySem.W.Frag) (h : X.K = K := by rfl) : CallR X (.type "list") (rListU K) := h ▸ call_list_of
theorem k_repr (K : PySem.W.Frag) (hg : X.A.guards = some []) (hu : X.A.units + 64 < cLine) (h : X.K = K := by rfl) : CallR X (.builtin "repr") (fun xs H Q =>
    ∃ x d, xs = [x] ∧ Dp K H x d ∧ d.showable = true ∧ d.depth ≤ 60 ∧ d.shown.length ≤ sizeLine ∧ Q (.str d.shown) H) := h ▸ call_reprD hg hu
theorem k_isInt (K : PySem.W.Frag) (h : X.K = K := by rfl) : CallR X (.builtin "isinstance") (rIsa K "int" Kd.isInt) := h ▸ isa_int
theorem k_isBool (K : PySem.W.Frag) (h : X.K = K := by rfl) : CallR X (.builtin "isinstance") (rIsa K "bool" Kd.isBool) := h ▸ isa_bool
theorem k_isStr (K : PySem.W.Frag) (h : X.K = K := by rfl) : CallR X (.builtin "isinstance") (rIsa K "str" Kd.isStr) := h ▸ isa_str
theorem k_isTuple (K : PySem.W.Frag) (h : X.K = K := by rfl) : CallR X (.builtin "isinstance") (rIsa K "tuple" Kd.isTuple) := h ▸ isa_tuple
theorem k_isList (K : PySem.W.Frag) (h : X.K = K := by rfl) : CallR X (.builtin "isinstance") (rIsa K "list" Kd.isList) := h ▸ isa_list
theorem k_isDict (K : PySem.W.Frag) (h : X.K = K := by rfl) : CallR X (.builtin "isinstance") (rIsa K "dict" Kd.isDict) := h ▸ isa_dict
variable {e o l : Expr} {ta tl tv : TE} {f : Str} {pos pos' : Pos} {tg : Expr}
theorem k_fld (K : PySem.W.Frag) (he : PE X e ta) (hb : attributeBase e f X.env (eval e X.env) = eval e X.env) (h : X.K = K := by rfl) : PE X (.Attribute e f pos) (tFld K ta f) := h ▸ pe_fld he hb
theorem k_sfld (K : PySem.W.Frag) {value : Expr} (ha : PE X o ta) (hv : PE X value tv) (hs : swapsWith value (some (.Attribute o f pos')) pos.line X.env = pure false) (h : X.K = K := by rfl) :
    PS X (.Assign [.Attribute o f pos'] value pos) (sFld K ta tv f) := h ▸ ps_fld ha hv hs
theorem k_wL (K : PySem.W.Frag) (hl : PE X l tl) (h : X.K = K := by rfl) : PI X tg l (iList K tl) := h ▸ pi_list hl
theorem k_wT (K : PySem.W.Frag) (hl : PE X l tl) (h : X.K = K := by rfl) : PI X tg l (iTup K tl) := h ▸ pi_tup hl
theorem k_gtup (K : PySem.W.Frag) {es : List Expr} {k : Nat} {t : TGs} {n : Nat} (hp : PGs X es t) (hc : X.calm = true := by rfl)
    (hn : (assignEach es X.env).length = n := by rfl) (hst : (assignEach es X.env).findIdx? (·.1) = none := by rfl) (h : X.K = K := by rfl) : PG X (.Tuple es k pos) (gTup K n t) := h ▸ pg_tup hc hp hn hst
theorem k_wEnum (K : PySem.W.Frag) {a : Expr} {te : TA} {p tpos : Pos} {elts : List Expr} {kk : Nat} (hm : X.mg "enumerate" = none) (ha : PA X [a] te) (hg : Gl X "enumerate" := by rfl)
    (hs : starEach [a] X.env = [(false, eval a X.env)] := by rfl) (h : X.K = K := by rfl) : PI X (.Tuple elts kk tpos) (.Call (.Name "enumerate" p) [a] [] pos) (iEnum K te) := h ▸ pi_enum hg hm ha hs
theorem k_wZip (K : PySem.W.Frag) {a b : Expr} {te : TA} {p tpos : Pos} {elts : List Expr} {kk : Nat} (hm : X.mg "zip" = none) (ha : PA X [a, b] te) (hg : Gl X "zip" := by rfl)
    (hs : starEach [a, b] X.env = (false, eval a X.env) :: starEach [b] X.env := by rfl) (hpl : (backTo pos (starEach [b] X.env)).any (·.1) = false := by rfl) (h : X.K = K := by rfl) :
    PI X (.Tuple elts kk tpos) (.Call (.Name "zip" p) [a, b] [] pos) (iZipA K te) := h ▸ pi_zipA hg hm ha hs hpl
theorem k_truth (K : PySem.W.Frag) {a : Expr} (ha : PE X a ta) (he : ∀ whole, isTrue a X.env whole = (do let v ← whole; standAt a.pos; holding [v] (truthy v)) := by intro _; rfl) (h : X.K = K := by rfl) :
    PT X a (fun σ H Q => ta σ H fun x H' => ∃ k, TruV K x H' k ∧ Q k H') := h ▸ pt_truth ha he
variable {es : List Expr} {to : TE} {t : TA} {name : Str} {apos cpos : Pos} {T id : String} {r : V → List V → Hp → VK → Prop}
theorem k_bm (K : PySem.W.Frag) (pa : PlainAttrs T) (slot : Slot T name id) (hty : typeOf (.builtin id) = pure (.type "method_descriptor")) (hm : MtR X id r) (ho : PE X o to) (ha : PA X (e :: es) t)
    (hbase : attributeBase o name X.env (eval o X.env) = eval o X.env := by rfl)
    (hfew : ((backTo cpos (starEach (e :: es) X.env)).all (fun x => !x.1) && (backToKw cpos (keywordEach [] X.env)).all (fun x => x.1.isSome) &&
      decide ((e :: es).length + ([] : List Keyword).length + (if ([] : List Keyword).isEmpty then 0 else 1) < 30)) = true := by rfl)
    (hline : (apos.endLine == cpos.line) = true := by rfl) (hs : starEach (e :: es) X.env = (false, eval e X.env) :: starEach es X.env := by rfl)
    (hpl : (backTo cpos (starEach es X.env)).any (·.1) = false := by rfl) (h : X.K = K := by rfl) :
    PE X (.Call (.Attribute o name apos) (e :: es) [] cpos) (tBM K T r to t) := h ▸ pe_bm pa slot hty hm ho ha hbase hfew hline hs hpl
theorem k_bm0 (K : PySem.W.Frag) (pa : PlainAttrs T) (slot : Slot T name id) (hty : typeOf (.builtin id) = pure (.type "method_descriptor")) (hm : MtR X id r) (ho : PE X o to)
    (hbase : attributeBase o name X.env (eval o X.env) = eval o X.env := by rfl)
    (hline : (apos.endLine == cpos.line) = true := by rfl) (h : X.K = K := by rfl) :
    PE X (.Call (.Attribute o name apos) [] [] cpos) (tBM0 K T r to) := h ▸ pe_bm0 pa slot hty hm ho hbase hline
end
theorem tyL {K : PySem.W.Frag} {H : Hp} {p : Addr} {xs : List V} (h : SqL K H p xs) : tyV K "list" (.ref p) H := .inl ⟨rfl, _, h⟩
end Ov

set_option maxHeartbeats 4000000
namespace Ov
open PySem PySem.Spec PyProof.Rows L2 RZ

/-! ### data of small depth -/
mutual
def plainD : Nat → PyData → Bool
  | _, .none => true
  | _, .bool _ => true
  | _, .int _ => true
  | _, .str x => PyData.strOk x
  | 0, .list _ => false
  | 0, .tuple _ => false
  | n + 1, .list xs => plainA n xs
  | n + 1, .tuple xs => plainA n xs
  | _, .dict _ => false
def plainA : Nat → List PyData → Bool
  | _, [] => true
  | n, x :: xs => plainD n x && plainA n xs
end
mutual
theorem plain_lay : ∀ (d : PyData) (n : Nat), plainD n d = true → d.canLay0 = true ∧ d.depth ≤ n
  | .none, n, _ => ⟨rfl, Nat.zero_le n⟩
  | .bool _, n, _ => ⟨rfl, Nat.zero_le n⟩
  | .int _, n, _ => ⟨rfl, Nat.zero_le n⟩
  | .str x, n, h => ⟨by cases n <;> simpa [plainD, PyData.canLay0] using h, Nat.zero_le n⟩
  | .list xs, 0, h => by simp [plainD] at h
  | .tuple xs, 0, h => by simp [plainD] at h
  | .list xs, n + 1, h => by
    have := plain_layA xs n (by simpa [plainD] using h)
    exact ⟨by simpa [PyData.canLay0] using this.1, by simp only [PyData.depth]; omega⟩
  | .tuple xs, n + 1, h => by
    have := plain_layA xs n (by simpa [plainD] using h)
    exact ⟨by simpa [PyData.canLay0] using this.1, by simp only [PyData.depth]; omega⟩
  | .dict _, n, h => by cases n <;> simp [plainD] at h
theorem plain_layA : ∀ (ds : List PyData) (n : Nat), plainA n ds = true → PyData.canLayAll0 ds = true ∧ PyData.depthAll ds ≤ n
  | [], n, _ => ⟨rfl, Nat.zero_le n⟩
  | d :: ds, n, h => by
    simp only [plainA, Bool.and_eq_true] at h
    have h1 := plain_lay d n h.1
    have h2 := plain_layA ds n h.2
    exact ⟨by simp [PyData.canLayAll0, h1.1, h2.1], by simp only [PyData.depthAll]; omega⟩
end
theorem shaped_of {d : PyData} {n : Nat} (h : plainD n d = true) (hn : n ≤ 64) : SeqAt.shaped d = true := by
  have := plain_lay d n h
  simp only [SeqAt.shaped, Bool.and_eq_true, decide_eq_true_eq]
  exact ⟨this.1, by omega⟩
theorem plainA_map {α : Type} {f : α → PyData} {n : Nat} : ∀ {l : List α}, (∀ x ∈ l, plainD n (f x) = true) → plainA n (l.map f) = true
  | [], _ => by simp [plainA]
  | x :: l, h => by
    simp only [List.map_cons, plainA, Bool.and_eq_true]
    exact ⟨h x (List.mem_cons_self ..), plainA_map fun y hy => h y (List.mem_cons_of_mem _ hy)⟩
theorem plain_int {n : Nat} {i : Int} : plainD n (.int i) = true := by cases n <;> simp [plainD]
theorem plain_bool {n : Nat} {b : Bool} : plainD n (.bool b) = true := by cases n <;> simp [plainD]
theorem plain_none {n : Nat} : plainD n .none = true := by cases n <;> simp [plainD]
theorem plain_ints {α : Type} {f : α → Int} {n : Nat} {l : List α} : plainA n (l.map fun x => PyData.int (f x)) = true := plainA_map fun _ _ => plain_int

/-! ### which values read as which data -/
mutual
theorem Dp.same {K : PySem.W.Frag} {H H' : Hp} (s : Same H H') : ∀ (d : PyData) {v : V}, Dp K H v d → Dp K H' v d
  | .none, _, h => by cases h; exact .non
  | .bool b, _, h => by cases h; exact .bl b
  | .int i, _, h => by cases h; exact .int i
  | .str x, _, h => by cases h; exact .str x
  | .list ds, _, h => by cases h with | lst h1 h2 => exact .lst (s.seq h1) (DpAll.same s ds h2)
  | .tuple ds, _, h => by cases h with | tup h1 h2 => exact .tup (Same.seqT s h1) (DpAll.same s ds h2)
  | .dict _, _, h => by cases h
theorem DpAll.same {K : PySem.W.Frag} {H H' : Hp} (s : Same H H') : ∀ (ds : List PyData) {vs : List V}, DpAll K H vs ds → DpAll K H' vs ds
  | [], _, h => by cases h; exact .nil
  | d :: ds, _, h => by cases h with | cons h1 h2 => exact .cons (Dp.same s d h1) (DpAll.same s ds h2)
end
theorem dpAll_map {K : PySem.W.Frag} {H : Hp} {α : Type} {f : α → V} {g : α → PyData} : ∀ {l : List α}, (∀ x ∈ l, Dp K H (f x) (g x)) → DpAll K H (l.map f) (l.map g)
  | [], _ => .nil
  | x :: l, h => .cons (h x (List.mem_cons_self ..)) (dpAll_map fun y hy => h y (List.mem_cons_of_mem _ hy))
theorem dpAll_nV {K : PySem.W.Frag} {H : Hp} {l : List Nat} : DpAll K H (l.map nV) (l.map fun n : Nat => PyData.int (n : Int)) := dpAll_map fun n _ => .int (n : Int)
theorem dpAll_int {K : PySem.W.Frag} {H : Hp} {l : List Int} : DpAll K H (l.map V.int) (l.map PyData.int) := dpAll_map fun n _ => .int n
theorem eqvAll_nil {ds : List PyData} : PyData.eqvAll ds [] = ds.isEmpty := by cases ds <;> rfl
theorem eq_nilL {K : PySem.W.Frag} {H : Hp} {a b : Addr} {l : List Nat} {Q : VK} (h : SqL K H a (l.map nV)) (h0 : SqL K H b []) (q : Q (.bl l.isEmpty) H) : rEqD K (.ref a) (.ref b) H Q := by
  refine ⟨_, _, .lst h dpAll_nV, .lst h0 .nil, shaped_of (n := 1) (by simp only [plainD]; exact plain_ints) (by decide), shaped_of (n := 1) (by simp [plainD, plainA]) (by decide), ?_⟩
  simp only [PyData.eqv, eqvAll_nil]
  rwa [show (l.map fun n : Nat => PyData.int (n : Int)).isEmpty = l.isEmpty by cases l <;> rfl]
theorem ne_nilT {K : PySem.W.Frag} {H : Hp} {a b : Addr} {l : List Nat} {Q : VK} (h : SqT K H a (l.map nV)) (h0 : SqT K H b []) (q : Q (.bl (!l.isEmpty)) H) : rNeD K (.ref a) (.ref b) H Q := by
  refine ⟨_, _, .tup h dpAll_nV, .tup h0 .nil, shaped_of (n := 1) (by simp only [plainD]; exact plain_ints) (by decide), shaped_of (n := 1) (by simp [plainD, plainA]) (by decide), ?_⟩
  simp only [PyData.eqv, eqvAll_nil]
  rwa [show (l.map fun n : Nat => PyData.int (n : Int)).isEmpty = l.isEmpty by cases l <;> rfl]
theorem iteE {b c : Bool} {A B : Prop} (h : b = c) (g : if c = true then A else B) : if b = true then A else B := h ▸ g
theorem filter_oV {g : Nat → Option Nat} : ∀ l : List Nat, (l.filter fun j => (g j).isSome).map (fun j => oV (g j)) = (l.filterMap g).map nV
  | [] => rfl
  | j :: l => by
    rw [List.filter_cons, List.filterMap_cons]
    cases e : g j with
    | none => simpa using filter_oV l
    | some n =>
      have ih := filter_oV (g := g) l
      simp only [Option.isSome_some, if_true, List.map_cons, ih, e]
      rfl
theorem nV_inj {a b : Nat} (h : nV a = nV b) : a = b := by
  have : (a : Int) = (b : Int) := V.int.inj h
  omega
theorem inV_one (a b : Nat) : inV (nV a) [nV b] = decide (a = b) := by
  simp only [inV, List.any_cons, List.any_nil, Bool.or_false]
  show ((b : Int) == (a : Int)) = _
  by_cases h : a = b
  · subst h; simp
  · rw [decide_eq_false h]
    exact beq_eq_false_iff_ne.mpr (by omega)

/-! ### SumTable: what its other defs promise -/
def spAdd (C : Addr) : Sp := fun vs H Q _ => ∃ (p l a : Addr) (L m : Nat) (ls : List Nat) (lv av : List (Option Nat)), vs = [.ref p, .int (L : Int)] ∧
  TabAt C H p l a m lv av ∧ 0 < m ∧ m ≤ 1000 ∧ 0 < L ∧ L ≤ 1000 ∧ TabOk ls m lv av ∧
  ∀ lv' av' H', TabOk (ls ++ [L]) m lv' av' → TabAt C H' p l a m lv' av' → Same2 l a H H' → Q .non H'
def spTab (K : PySem.W.Frag) (C : Addr) : Sp := fun vs H Q _ => ∃ (p dx t : Addr) (ls : List Nat), vs = [.ref p, .ref t] ∧ H p = some (.ins C dx []) ∧ SqT K H t (ls.map nV) ∧ LensOk ls ∧
  ∀ l a lv av H', H l = none → H a = none → SameB p H H' → TabAt C H' p l a (ls.headD 0) lv av → TabOk ls (ls.headD 0) lv av → Q .non H'
def spHas (C : Addr) : Sp := fun vs H Q _ => ∃ (p l a : Addr) (ls : List Nat) (lv av : List (Option Nat)) (t : Int), vs = [.ref p, .int t] ∧
  TabAt C H p l a (ls.headD 0) lv av ∧ TabOk ls (ls.headD 0) lv av ∧ (∀ x ∈ ls, 1 ≤ x) ∧ ∀ b : Bool, (b = true ↔ 0 ≤ t ∧ Sums ls t.toNat) → Q (.bl b) H
def spIsSum (K : PySem.W.Frag) : Sp := fun vs H Q _ => ∃ (t : Addr) (ls : List Nat) (n : Int), vs = [.ref t, .int n] ∧ SqT K H t (ls.map nV) ∧ LensOk ls ∧
  ∀ (b : Bool) H', (b = true ↔ 0 ≤ n ∧ Sums ls n.toNat) → Same H H' → Q (.bl b) H'
theorem Same2.refl (l a : Addr) (H : Hp) : Same2 l a H H := fun _ _ _ _ h => h
theorem Same2.trans {l a : Addr} {H H1 H2 : Hp} (x : Same2 l a H H1) (y : Same2 l a H1 H2) : Same2 l a H H2 := fun b o h1 h2 h => y b o h1 h2 (x b o h1 h2 h)
theorem same_made {H H' : Hp} {x dx C : Addr} (nx : H x = none) (nd : H dx = none) (s : SameB x (upd (upd H dx (.own x)) x (.ins C dx [])) H') : Same H H' := fun b o e =>
  s b o (ne_of_none e nx) (by rw [upd_ne (ne_of_none e nx), upd_ne (ne_of_none e nd)]; exact e)
theorem sums_nil {t : Nat} (h : Sums [] t) : t = 0 := by
  cases h with
  | zero => rfl
  | add _ h => cases h
theorem walk_upto {n : Nat} : Walk (Itr 0 n) n (fun _ => True) (YFn fun i => nV i) := by
  refine walk_range.mono (fun _ h => h) ?_
  rintro i H x H' _ _ ⟨h1, h2⟩
  refine ⟨h1, h2.trans ?_⟩
  show V.int (0 + (i : Int)) = V.int (i : Int)
  rw [Int.zero_add]
theorem put_get {f : Str} {v : V} {fs : List (Str × V)} : (putF f v fs).lookup f = some v := by rw [lookup_putF, if_pos rfl]
theorem put_ne {f g : Str} {v : V} {fs : List (Str × V)} (h : ¬ g = f) : (putF f v fs).lookup g = fs.lookup g := by rw [lookup_putF, if_neg h]
theorem put_few {f : Str} {v : V} {fs : List (Str × V)} {n : Nat} (h : fs.length ≤ n) : (putF f v fs).length ≤ n + 1 := Nat.le_trans (length_putF f v fs) (by omega)
theorem rep_one {x : V} {k : Nat} : (List.replicate k [x]).flatten = List.replicate k x := by
  induction k with
  | zero => rfl
  | succ k ih => rw [List.replicate_succ, List.flatten_cons, ih, List.replicate_succ]; rfl
theorem tab_fs {m : Nat} {l a : Addr} : TabFs m l a (putF "added" (.ref a) (putF "least" (.ref l) (putF "modulus" (.int (m : Int)) []))) := by
  refine ⟨?_, ?_, ?_, ?_, ?_, ?_⟩
  · rw [put_ne (by decide +kernel), put_ne (by decide +kernel), put_get]
  · rw [put_ne (by decide +kernel), put_get]
  · rw [put_get]
  · rw [put_ne (by decide +kernel), put_ne (by decide +kernel), put_ne (by decide +kernel)]; rfl
  · rw [put_ne (by decide +kernel), put_ne (by decide +kernel), put_ne (by decide +kernel)]; rfl
  · rw [put_ne (by decide +kernel), put_ne (by decide +kernel), put_ne (by decide +kernel)]; rfl

/-! ### the helpers of the laws -/
def SeqV (K : PySem.W.Frag) (H : Hp) (q : Addr) (xs : List V) : Prop := SqL K H q xs ∨ SqT K H q xs
theorem SameB.seqL {K : PySem.W.Frag} {H H' : Hp} {a b : Addr} {xs : List V} (e : SameB b H H') (n : a ≠ b) (h : SqL K H a xs) : SqL K H' a xs := by
  rcases h with (h | ⟨o, h⟩) | h
  · exact .inl (.inl (e _ _ n h))
  · exact .inl (.inr ⟨o, e _ _ n h⟩)
  · exact .inr h
theorem BoxAt.seqT {K : PySem.W.Frag} {H H' : Hp} {a b : Addr} {N : Nat} {xs : List V} (x : BoxAt H b N) (e : SameB b H H') (h : SqT K H a xs) : SqT K H' a xs := by
  obtain ⟨o, s, n, hb, _⟩ := x.ex
  rcases h with (h | ⟨q, h⟩) | h
  · exact .inl (.inl (e _ _ (fun z => by rw [z, hb] at h; cases h) h))
  · exact .inl (.inr ⟨q, e _ _ (fun z => by rw [z, hb] at h; cases h) h⟩)
  · exact .inr h
def rIxA (K : PySem.W.Frag) : R2 := fun x y H Q => ∃ p xs i v, x = .ref p ∧ y = .int i ∧ SeqV K H p xs ∧ atI xs i = some v ∧ Q v H
theorem k_ixA {X : Cx} (K : PySem.W.Frag) (h : X.K = K := by rfl) : IxR X (rIxA K) := by
  subst h
  intro value slice pins s σ H x y v u Q I rx ry hq hs
  obtain ⟨p, xs, i, w, e1, e2, hp, ha, q⟩ := hq
  rcases hp with hp | hp
  · exact ix_list value slice pins s σ H x y v u Q I rx ry ⟨p, xs, i, w, e1, e2, hp, ha, q⟩ hs
  · exact ix_tup value slice pins s σ H x y v u Q I rx ry ⟨p, xs, i, w, e1, e2, hp, ha, q⟩ hs
abbrev p60 : Int := (10 : Int) ^ Int.toNat 60
theorem p60_lt : p60.natAbs < 2 ^ 200 := by decide +kernel
theorem w60 : CMulW p60 p60 := wide_mul p60_lt p60_lt (by decide) (by decide) (by decide)
theorem w120 : CMulW (p60 * p60) p60 := wide_mul (wide_lt p60_lt p60_lt) p60_lt (by decide) (by decide) (by decide)
theorem w180 : CMulW (p60 * p60 * p60) p60 := wide_mul (wide_lt (wide_lt p60_lt p60_lt) p60_lt) p60_lt (by decide) (by decide) (by decide)
theorem p240 : p60 * p60 * p60 * p60 = boxTop := by decide +kernel
theorem boxTop_pos : 0 < boxTop := by decide +kernel
theorem bit01 {c : Bool} : 0 ≤ (if c = true then (1 : Int) else 0) ∧ (if c = true then (1 : Int) else 0) ≤ 1 := by cases c <;> decide
theorem BoxAt.ne {H : Hp} {b q : Addr} {N : Nat} (x : BoxAt H b N) (h : H q = none) : q ≠ b := fun e => by
  obtain ⟨o, s, n, hb, _⟩ := x.ex
  rw [e, hb] at h
  cases h
def spOf (K : PySem.W.Frag) : Sp := fun vs H Q _ => ∃ (b q : Addr) (xs : List V) (N : Nat), vs = [.ref b, .ref q] ∧ BoxAt H b N ∧ N ≤ 2 ^ 60 ∧ SeqV K H q xs ∧ q ≠ b ∧ 0 < xs.length ∧ xs.length ≤ 100000 ∧
  ∀ (x : V) (H' : Hp), x ∈ xs → BoxAt H' b (N + 1) → SameB b H H' → Q x H'
/-- keys of a dict that are ints -/
theorem put_keys {kvs : List (Key × V)} {ks : List Int} {n : Int} {v : V} (h : kvs.map (·.1) = ks.map Sum.inl) (nd : ks.Nodup) :
    ∃ ks' : List Int, (putK kvs (Sum.inl n) v).map (·.1) = ks'.map Sum.inl ∧ ks'.Nodup ∧ ks'.length ≤ ks.length + 1 ∧ (∀ x, x ∈ ks' ↔ x = n ∨ x ∈ ks) := by
  by_cases hn : n ∈ ks
  · refine ⟨ks, ?_, nd, Nat.le_succ _, fun x => ⟨Or.inr, fun h => h.elim (fun e => e ▸ hn) id⟩⟩
    have ha : (kvs.any fun kv => decide (kv.1 = Sum.inl n)) = true := by
      have : (Sum.inl n : Key) ∈ kvs.map (·.1) := by rw [h]; exact List.mem_map.mpr ⟨n, hn, rfl⟩
      obtain ⟨p, hp, e⟩ := List.mem_map.mp this
      exact List.any_eq_true.mpr ⟨p, hp, decide_eq_true e⟩
    unfold putK
    rw [if_pos ha, List.map_map, ← h]
    apply List.map_congr_left
    intro p _
    show (if p.1 = Sum.inl n then (p.1, v) else p).1 = p.1
    split <;> rfl
  · have ha : (kvs.any fun kv => decide (kv.1 = Sum.inl n)) = false := by
      rw [Bool.eq_false_iff]
      intro hx
      obtain ⟨p, hp, e⟩ := List.any_eq_true.mp hx
      have e := of_decide_eq_true e
      have : (Sum.inl n : Key) ∈ ks.map Sum.inl := by rw [← h, ← e]; exact List.mem_map.mpr ⟨p, hp, rfl⟩
      obtain ⟨z, hz, e2⟩ := List.mem_map.mp this
      cases e2
      exact hn hz
    refine ⟨ks ++ [n], ?_, ?_, by simp, fun x => by simp [or_comm]⟩
    · unfold putK
      rw [if_neg (by rw [ha]; decide), List.map_append, h, List.map_append]
      rfl
    · rw [List.nodup_append]
      refine ⟨nd, by simp, ?_⟩
      intro a hak b hb e
      have := List.mem_singleton.mp hb
      subst this e
      exact hn hak
theorem dput_int {H : Hp} {a : Addr} {kvs : List (Key × V)} {n : Int} {v : V} (e : H a = some (.dK kvs)) (hl : kvs.length < sizeLine) : DPut H a (.int n) v (upd H a (.dK (putK kvs (Sum.inl n) v))) := DPut.k (k := Sum.inl n) e hl
/-- ascending without duplicates -/
theorem asc_of_perm {ys ks : List Int} (h1 : ys.Perm ks) (h2 : ys.Pairwise (· ≤ ·)) (nd : ks.Nodup) : ys.Pairwise (· < ·) := by
  have nd2 : ys.Nodup := h1.nodup_iff.mpr nd
  have h3 : ys.Pairwise (fun a b => a ≤ b ∧ a ≠ b) := List.Pairwise.and h2 nd2
  exact h3.imp fun h => by omega
theorem toNats : ∀ {ys : List Int}, (∀ x ∈ ys, 0 ≤ x) → ys = (ys.map Int.toNat).map fun n : Nat => (n : Int)
  | [], _ => rfl
  | y :: ys, h => by
    have h1 := h y (List.mem_cons_self ..)
    have h2 := toNats fun x hx => h x (List.mem_cons_of_mem _ hx)
    rw [List.map_cons, List.map_cons, ← h2]
    congr 1
    omega
def spDrawn (K : PySem.W.Frag) (top most : Nat) : Sp := fun vs H Q _ => ∃ (b : Addr) (N : Nat), vs = [.ref b] ∧ BoxAt H b N ∧ N ≤ 2 ^ 59 ∧
  ∀ t (ls : List Nat) H', SqT K H' t (ls.map nV) → LensOk ls → ls.length ≤ most → (∀ x ∈ ls, x ≤ top) → BoxAt H' b (N + 20) → SameB b H H' → Q (.ref t) H'
theorem sums_last {ls : List Nat} (hp : ∀ x ∈ ls, 1 ≤ x) {n : Nat} (hn : 0 < n) : Sums ls n ↔ ∃ a ∈ ls, a ≤ n ∧ Sums ls (n - a) := by
  constructor
  · intro h
    cases h with
    | zero => omega
    | @add t a h1 h2 => exact ⟨a, h2, by omega, by rw [Nat.add_sub_cancel]; exact h1⟩
  · rintro ⟨a, h1, h2, h3⟩
    have := Sums.add h3 h1
    rwa [Nat.sub_add_cancel h2] at this
def spAdded (K : PySem.W.Frag) : Sp := fun vs H Q _ => ∃ (t : Addr) (ls : List Nat) (m : Nat), vs = [.ref t, .int (m : Int)] ∧ SqT K H t (ls.map nV) ∧ ls.length ≤ 50 ∧ (∀ x ∈ ls, 1 ≤ x) ∧ m ≤ 1000 ∧
  ∀ p (bs : List Bool) H', H p = none → H' p = some (.lst (bs.map V.bl)) → bs.length = m + 1 → (∀ i b, bs[i]? = some b → (b = true ↔ Sums ls i)) → Same H H' → Q (.ref p) H'
/-! ### repr of small things -/
theorem dep_bool {b : Bool} : (PyData.bool b).depth ≤ 60 := by simp [PyData.depth]
theorem len_bool {b : Bool} : (PyData.bool b).shown.length ≤ sizeLine := by cases b <;> decide +kernel
theorem dep_int {i : Int} : (PyData.int i).depth ≤ 60 := by simp [PyData.depth]
theorem dep_none : (PyData.none).depth ≤ 60 := by simp [PyData.depth]
theorem len_none : (PyData.none).shown.length ≤ sizeLine := by decide +kernel
end Ov

set_option maxHeartbeats 4000000
namespace Ov
open PySem PySem.Spec PyProof.Rows L2 RZ

/-! ### how long a repr is -/
mutual
def wt : PyData → Nat
  | .none => 1
  | .bool _ => 1
  | .int _ => 1
  | .str x => 1 + x.length
  | .list xs => 1 + wtA xs
  | .tuple xs => 1 + wtA xs
  | .dict _ => 0
def wtA : List PyData → Nat
  | [] => 0
  | x :: xs => wt x + wtA xs
end
theorem listText_le : ∀ ts : List Str, (listText ts).length ≤ 4 + piled ts
  | [] => by decide
  | t :: r => by
    have h := textFrom_length_pos r 1 (("[" : Str) ++ (if (0 : Nat) > 0 then ", " else "" : String) ++ t) (Nat.succ_pos 0)
    have e : ((("[" : Str) ++ (if (0 : Nat) > 0 then ", " else "" : String) ++ t)).length = 1 + t.length := by
      rw [strLen_append, strLen_append]
      rfl
    have h1 : (listText (t :: r)).length = (textFrom 1 (("[" : Str) ++ (if (0 : Nat) > 0 then ", " else "" : String) ++ t) r).length + 1 := by
      show (textFrom 0 "[" (t :: r) ++ "]").length = _
      rw [strLen_append]
      rfl
    rw [h1, h, e, piled_cons]
    omega
theorem tupleText_le (ts : List Str) : (tupleText ts).length ≤ 4 + piled ts := by
  have e : (tupleText ts).length = 1 + (Str.join ", " ts).length + (if ts.length == 1 then 2 else 1) := by
    unfold tupleText
    rw [strLen_append, strLen_append]
    congr 1
    split <;> rfl
  rw [e]
  cases ts with
  | nil => decide
  | cons t r =>
    have := join_length_add (t :: r) (List.cons_ne_nil _ _)
    split <;> omega
mutual
theorem shown_le : ∀ (d : PyData) (n : Nat), plainD n d = true → d.showable = true → d.shown.length + 2 ≤ 2002 * wt d
  | .none, n, _, _ => by decide
  | .bool b, n, _, _ => by cases b <;> decide
  | .int i, n, _, h => by
    have := int_text_len_1921 (i := i) (of_decide_eq_true h)
    show (Str.ofString (toString i)).length + 2 ≤ 2002 * 1
    omega
  | .str x, n, h, _ => by
    have hx : ∀ c ∈ x.cps.toList, c < 16 ^ 8 := by
      have : PyData.strOk x = true := by cases n <;> simpa [plainD] using h
      intro c hc
      have := Array.all_eq_true_iff_forall_mem.mp this c (by simpa using hc)
      have := of_decide_eq_true this
      omega
    have := PySem.StrLaws.reprText_len x hx
    show (reprText x).length + 2 ≤ 2002 * (1 + x.length)
    omega
  | .list xs, 0, h, _ => by simp [plainD] at h
  | .tuple xs, 0, h, _ => by simp [plainD] at h
  | .list xs, n + 1, h, hs => by
    have := shownA_le xs n (by simpa [plainD] using h) (by simpa [PyData.showable] using hs)
    have h2 := listText_le (PyData.shownAll xs)
    show (listText (PyData.shownAll xs)).length + 2 ≤ 2002 * (1 + wtA xs)
    omega
  | .tuple xs, n + 1, h, hs => by
    have := shownA_le xs n (by simpa [plainD] using h) (by simpa [PyData.showable] using hs)
    have h2 := tupleText_le (PyData.shownAll xs)
    show (tupleText (PyData.shownAll xs)).length + 2 ≤ 2002 * (1 + wtA xs)
    omega
  | .dict _, n, h, _ => by cases n <;> simp [plainD] at h
theorem shownA_le : ∀ (ds : List PyData) (n : Nat), plainA n ds = true → PyData.showableAll ds = true → piled (PyData.shownAll ds) ≤ 2002 * wtA ds
  | [], _, _, _ => by simp [PyData.shownAll, piled, wtA]
  | d :: ds, n, h, hs => by
    simp only [plainA, Bool.and_eq_true] at h
    simp only [PyData.showableAll, Bool.and_eq_true] at hs
    have h1 := shown_le d n h.1 hs.1
    have h2 := shownA_le ds n h.2 hs.2
    rw [PyData.shownAll, piled_cons, wtA, Nat.mul_add]
    omega
end
/-- a repr fits -/
theorem shows {d : PyData} {n : Nat} (h : plainD n d = true) (hn : n ≤ 60) (hs : d.showable = true) (hw : wt d ≤ 8000) : d.depth ≤ 60 ∧ d.shown.length ≤ sizeLine := by
  have h1 := plain_lay d n h
  have h2 := shown_le d n h hs
  refine ⟨by omega, Nat.le_trans (m := 2002 * 8000) (by omega) (by decide)⟩
theorem wtA_map {α : Type} {f : α → PyData} {k : Nat} : ∀ {l : List α}, (∀ x ∈ l, wt (f x) ≤ k) → wtA (l.map f) ≤ k * l.length
  | [], _ => by simp [wtA]
  | x :: l, h => by
    have h1 := h x (List.mem_cons_self ..)
    have h2 := wtA_map (l := l) fun y hy => h y (List.mem_cons_of_mem _ hy)
    simp only [List.map_cons, wtA, List.length_cons, Nat.mul_add]
    omega
theorem showA_map {α : Type} {f : α → PyData} : ∀ {l : List α}, (∀ x ∈ l, (f x).showable = true) → PyData.showableAll (l.map f) = true
  | [], _ => by simp [PyData.showableAll]
  | x :: l, h => by
    simp only [List.map_cons, PyData.showableAll, Bool.and_eq_true]
    exact ⟨h x (List.mem_cons_self ..), showA_map fun y hy => h y (List.mem_cons_of_mem _ hy)⟩
theorem show_int {i : Int} (h : i.natAbs < 2 ^ 1000) : (PyData.int i).showable = true := by
  simp only [PyData.showable, decide_eq_true_eq]
  exact Nat.lt_of_lt_of_le (PySem.Flt.log2_lt_of (k := 1000) (by decide) h) (by decide)
/-- a number that may lack, as data -/
def oD : Option Nat → PyData
  | none => .none
  | some n => .int (n : Int)
theorem dp_oV {K : PySem.W.Frag} {H : Hp} {o : Option Nat} : Dp K H (oV o) (oD o) := by
  cases o with
  | none => exact .non
  | some n => exact .int _
theorem dpAll_oV {K : PySem.W.Frag} {H : Hp} {l : List (Option Nat)} : DpAll K H (l.map oV) (l.map oD) := dpAll_map fun _ _ => dp_oV
theorem plain_oD {n : Nat} {o : Option Nat} : plainD n (oD o) = true := by
  cases o with
  | none => exact plain_none
  | some _ => exact plain_int
theorem show_oD {o : Option Nat} (h : ∀ n, o = some n → n < 2 ^ 1000) : (oD o).showable = true := by
  cases o with
  | none => rfl
  | some n => exact show_int (by have := h n rfl; omega)
theorem wt_oD {o : Option Nat} : wt (oD o) ≤ 1 := by cases o <;> simp [oD, wt]
/-! ### common_divisor, least_sums -/
def spGcdL (K : PySem.W.Frag) : Sp := fun vs H Q _ => ∃ (t : Addr) (ls : List Nat), vs = [.ref t] ∧ SqT K H t (ls.map nV) ∧ LensOk ls ∧ ∀ H', Same H H' → Q (.int (gcdL ls : Int)) H'
def spLeast (K : PySem.W.Frag) : Sp := fun vs H Q _ => ∃ (t : Addr) (ls : List Nat), vs = [.ref t] ∧ SqT K H t (ls.map nV) ∧ LensOk ls ∧
  ∀ q lv av H', Same H H' → SqT K H' q (lv.map oV) → TabOk ls (ls.headD 0) lv av → Q (.ref q) H'
def spLeast2 (K : PySem.W.Frag) : Sp := fun vs H Q _ => ∃ (t : Addr) (ls : List Nat), vs = [.ref t] ∧ SqT K H t (ls.map nV) ∧ LensOk ls ∧ (∀ x ∈ ls, x ≤ 24) ∧
  ∀ q (lv : List (Option Nat)) H', Same H H' → SqT K H' q (lv.map oV) → lv.length = ls.headD 0 → (∀ r, r < ls.headD 0 → ∃ e, lv[r]? = some e ∧ EntOk (Sums ls) (ls.headD 0) r e) → Q (.ref q) H'
def spDiv2 (K : PySem.W.Frag) : Sp := fun vs H Q _ => ∃ (t : Addr) (ls : List Nat), vs = [.ref t] ∧ SqT K H t (ls.map nV) ∧ LensOk ls ∧ (∀ x ∈ ls, x ≤ 24) ∧ ∀ H', Same H H' → Q (.int (gcdL ls : Int)) H'
theorem eq_nilT {K : PySem.W.Frag} {H : Hp} {a b : Addr} {l : List Nat} {Q : VK} (h : SqT K H a (l.map nV)) (h0 : SqT K H b []) (q : Q (.bl l.isEmpty) H) : rEqD K (.ref a) (.ref b) H Q := by
  refine ⟨_, _, .tup h dpAll_nV, .tup h0 .nil, shaped_of (n := 1) (by simp only [plainD]; exact plain_ints) (by decide), shaped_of (n := 1) (by simp [plainD, plainA]) (by decide), ?_⟩
  simp only [PyData.eqv, eqvAll_nil]
  rwa [show (l.map fun n : Nat => PyData.int (n : Int)).isEmpty = l.isEmpty by cases l <;> rfl]
theorem filter_last {c : Nat → Bool} {g : Nat} (h1 : ∀ i, g < i + 1 → c i = false) (h2 : c (g - 1) = true) (hg : 0 < g) : ∀ n, g ≤ n → (List.range n).filter c = (List.range (g - 1)).filter c ++ [g - 1]
  | 0, h => by omega
  | n + 1, h => by
    rw [List.range_succ, List.filter_append]
    by_cases e : g = n + 1
    · subst e
      rw [Nat.add_sub_cancel] at h2 ⊢
      simp [h2]
    · have ih := filter_last h1 h2 hg n (by omega)
      have h3 : c n = false := h1 n (by omega)
      rw [ih]
      simp [h3]
end Ov

set_option maxHeartbeats 4000000
namespace Mi
open PySem PySem.Spec PyProof.Rows L2 RZ Ov

/-! ### data by value; o: the node is owned by one place, and may be changed there -/
inductive D where
  | non
  | bl (b : Bool)
  | int (i : Int)
  | str (x : Str)
  | tup (xs : List D)
  | lst (o : Bool) (xs : List D)
  | dct (o : Bool) (kvs : List (D × D))
  | ins (o : Bool) (c : String) (fs : List (String × D))
  | set (xs : List D)
  | scr (xs : List D)
deriving Inhabited

structure Ct where
  K : PySem.W.Frag
  cls : String → Option Addr
  P : Program
  w : World

def kD : Key → D
  | .inl i => .int i
  | .inr x => .str x

/-- a set, by its members in some order; a set of texts has a mark in front -/
def SetD (C : Ct) (a : Addr) (ks : List D) (o : HO) : Prop :=
  (∃ xs : List Str, ks = .non :: xs.map D.str ∧ xs.Nodup ∧ o = SetK C.P C.w a (fun k => xs.any fun q => decide (k = Sum.inr q)) xs.length) ∨
  ∃ ns : List Int, ks = ns.map D.int ∧ ns.Nodup ∧ o = SetO C.w a (fun k => ns.any fun q => decide (k = q)) ns.length
mutual
/-- v is d: frozen parts stand in Z, owned nodes in H; F the owned addresses -/
def RdV (C : Ct) (Z H : Hp) : D → V → List Addr → Prop
  | .non, v, F => v = .non ∧ F = []
  | .bl b, v, F => v = .bl b ∧ F = []
  | .int i, v, F => v = .int i ∧ F = []
  | .str x, v, F => v = .str x ∧ F = []
  | .tup ds, v, F => F = [] ∧ ∃ a vs, v = .ref a ∧ SqT C.K Z a vs ∧ RdL C Z H ds vs []
  | .lst o ds, v, F => match o with
    | false => F = [] ∧ ∃ a vs, v = .ref a ∧ Z a = some (.lst vs) ∧ RdL C Z H ds vs []
    | true => ∃ a vs G, v = .ref a ∧ H a = some (.lst vs) ∧ F = a :: G ∧ RdL C Z H ds vs G
  | .dct o kvs, v, F => match o with
    | false => F = [] ∧ ∃ a us, v = .ref a ∧ Z a = some (.dK us) ∧ RdK C Z H kvs us []
    | true => ∃ a us G, v = .ref a ∧ H a = some (.dK us) ∧ F = a :: G ∧ RdK C Z H kvs us G
  | .ins o c fs, v, F => match o with
    | false => F = [] ∧ ∃ a Ca dx us, v = .ref a ∧ C.cls c = some Ca ∧ Z a = some (.ins Ca dx us) ∧ RdF C Z H fs us []
    | true => ∃ a Ca dx us G, v = .ref a ∧ C.cls c = some Ca ∧ H a = some (.ins Ca dx us) ∧ F = a :: G ∧ RdF C Z H fs us G
  | .set ks, v, F => F = [] ∧ ∃ a o, v = .ref a ∧ Z a = some o ∧ SetD C a ks o
  | .scr ds, v, F => F = [] ∧ ∃ a vs, v = .ref a ∧ SqL C.K Z a vs ∧ RdL C Z H ds vs []
def RdL (C : Ct) (Z H : Hp) : List D → List V → List Addr → Prop
  | [], vs, F => vs = [] ∧ F = []
  | d :: ds, vs, F => ∃ v r F1 F2, vs = v :: r ∧ F = F1 ++ F2 ∧ RdV C Z H d v F1 ∧ RdL C Z H ds r F2
def RdK (C : Ct) (Z H : Hp) : List (D × D) → List (Key × V) → List Addr → Prop
  | [], us, F => us = [] ∧ F = []
  | (k, d) :: r, us, F => ∃ q v s F1 F2, us = (q, v) :: s ∧ F = F1 ++ F2 ∧ k = kD q ∧ RdV C Z H d v F1 ∧ RdK C Z H r s F2
def RdF (C : Ct) (Z H : Hp) : List (String × D) → List (Str × V) → List Addr → Prop
  | [], us, F => us = [] ∧ F = []
  | (k, d) :: r, us, F => ∃ v s F1 F2, us = (PySem.Str.ofString k, v) :: s ∧ F = F1 ++ F2 ∧ RdV C Z H d v F1 ∧ RdF C Z H r s F2
end

mutual
def fz : D → D
  | .non => .non
  | .bl b => .bl b
  | .int i => .int i
  | .str x => .str x
  | .tup ds => .tup (fzL ds)
  | .lst _ ds => .lst false (fzL ds)
  | .dct _ kvs => .dct false (fzK kvs)
  | .ins _ c fs => .ins false c (fzF fs)
  | .set xs => .set xs
  | .scr xs => .scr (fzL xs)
def fzL : List D → List D
  | [] => []
  | d :: ds => fz d :: fzL ds
def fzK : List (D × D) → List (D × D)
  | [] => []
  | (k, d) :: r => (k, fz d) :: fzK r
def fzF : List (String × D) → List (String × D)
  | [] => []
  | (k, d) :: r => (k, fz d) :: fzF r
end
mutual
/-- no owned node within -/
def fzn : D → Bool
  | .non => true
  | .bl _ => true
  | .int _ => true
  | .str _ => true
  | .tup ds => fznL ds
  | .lst o ds => !o && fznL ds
  | .dct o kvs => !o && fznK kvs
  | .ins o _ fs => !o && fznF fs
  | .set _ => true
  | .scr xs => fznL xs
def fznL : List D → Bool
  | [] => true
  | d :: ds => fzn d && fznL ds
def fznK : List (D × D) → Bool
  | [] => true
  | (_, d) :: r => fzn d && fznK r
def fznF : List (String × D) → Bool
  | [] => true
  | (_, d) :: r => fzn d && fznF r
end
section
variable {C : Ct} {Z Z' H H' : Hp}
mutual
theorem RdV.mono (sz : Same Z Z') : ∀ (d : D) (v : V) (F : List Addr), (∀ a ∈ F, H' a = H a) → RdV C Z H d v F → RdV C Z' H' d v F
  | .non, v, F, _, h => by simpa [RdV] using h
  | .bl _, v, F, _, h => by simpa [RdV] using h
  | .int _, v, F, _, h => by simpa [RdV] using h
  | .str _, v, F, _, h => by simpa [RdV] using h
  | .tup ds, v, F, e, h => by
    rw [RdV] at h ⊢
    obtain ⟨hF, a, vs, h1, h2, h3⟩ := h
    exact ⟨hF, a, vs, h1, Same.seqT sz h2, RdL.mono sz ds vs [] (fun a ha => by cases ha) h3⟩
  | .lst false ds, v, F, e, h => by
    rw [RdV] at h ⊢
    obtain ⟨hF, a, vs, h1, h2, h3⟩ := h
    exact ⟨hF, a, vs, h1, sz _ _ h2, RdL.mono sz ds vs [] (fun a ha => by cases ha) h3⟩
  | .lst true ds, v, F, e, h => by
    rw [RdV] at h ⊢
    obtain ⟨a, vs, G, h1, h2, h3, h4⟩ := h
    subst h3
    exact ⟨a, vs, G, h1, by rw [e a (List.mem_cons_self ..)]; exact h2, rfl, RdL.mono sz ds vs G (fun b hb => e b (List.mem_cons_of_mem _ hb)) h4⟩
  | .dct false kvs, v, F, e, h => by
    rw [RdV] at h ⊢
    obtain ⟨hF, a, vs, h1, h2, h3⟩ := h
    exact ⟨hF, a, vs, h1, sz _ _ h2, RdK.mono sz kvs vs [] (fun a ha => by cases ha) h3⟩
  | .dct true kvs, v, F, e, h => by
    rw [RdV] at h ⊢
    obtain ⟨a, vs, G, h1, h2, h3, h4⟩ := h
    subst h3
    exact ⟨a, vs, G, h1, by rw [e a (List.mem_cons_self ..)]; exact h2, rfl, RdK.mono sz kvs vs G (fun b hb => e b (List.mem_cons_of_mem _ hb)) h4⟩
  | .ins false c fs, v, F, e, h => by
    rw [RdV] at h ⊢
    obtain ⟨hF, a, Ca, dx, us, h1, h2, h3, h4⟩ := h
    exact ⟨hF, a, Ca, dx, us, h1, h2, sz _ _ h3, RdF.mono sz fs us [] (fun a ha => by cases ha) h4⟩
  | .ins true c fs, v, F, e, h => by
    rw [RdV] at h ⊢
    obtain ⟨a, Ca, dx, us, G, h1, h2, h3, h4, h5⟩ := h
    subst h4
    exact ⟨a, Ca, dx, us, G, h1, h2, by rw [e a (List.mem_cons_self ..)]; exact h3, rfl, RdF.mono sz fs us G (fun b hb => e b (List.mem_cons_of_mem _ hb)) h5⟩
  | .set ks, v, F, _, h => by
    rw [RdV] at h ⊢
    obtain ⟨hF, a, o, h1, h2, h3⟩ := h
    exact ⟨hF, a, o, h1, sz _ _ h2, h3⟩
  | .scr ds, v, F, e, h => by
    rw [RdV] at h ⊢
    obtain ⟨hF, a, vs, h1, h2, h3⟩ := h
    exact ⟨hF, a, vs, h1, sz.seq h2, RdL.mono sz ds vs [] (fun a ha => by cases ha) h3⟩
theorem RdL.mono (sz : Same Z Z') : ∀ (ds : List D) (vs : List V) (F : List Addr), (∀ a ∈ F, H' a = H a) → RdL C Z H ds vs F → RdL C Z' H' ds vs F
  | [], vs, F, _, h => by simpa [RdL] using h
  | d :: ds, vs, F, e, h => by
    rw [RdL] at h ⊢
    obtain ⟨v, r, F1, F2, h1, h2, h3, h4⟩ := h
    subst h2
    exact ⟨v, r, F1, F2, h1, rfl, RdV.mono sz d v F1 (fun a ha => e a (List.mem_append_left _ ha)) h3, RdL.mono sz ds r F2 (fun a ha => e a (List.mem_append_right _ ha)) h4⟩
theorem RdK.mono (sz : Same Z Z') : ∀ (ds : List (D × D)) (vs : List (Key × V)) (F : List Addr), (∀ a ∈ F, H' a = H a) → RdK C Z H ds vs F → RdK C Z' H' ds vs F
  | [], vs, F, _, h => by simpa [RdK] using h
  | (k, d) :: ds, vs, F, e, h => by
    rw [RdK] at h ⊢
    obtain ⟨q, v, r, F1, F2, h1, h2, h3, h4, h5⟩ := h
    subst h2
    exact ⟨q, v, r, F1, F2, h1, rfl, h3, RdV.mono sz d v F1 (fun a ha => e a (List.mem_append_left _ ha)) h4, RdK.mono sz ds r F2 (fun a ha => e a (List.mem_append_right _ ha)) h5⟩
theorem RdF.mono (sz : Same Z Z') : ∀ (ds : List (String × D)) (vs : List (Str × V)) (F : List Addr), (∀ a ∈ F, H' a = H a) → RdF C Z H ds vs F → RdF C Z' H' ds vs F
  | [], vs, F, _, h => by simpa [RdF] using h
  | (k, d) :: ds, vs, F, e, h => by
    rw [RdF] at h ⊢
    obtain ⟨v, r, F1, F2, h1, h2, h4, h5⟩ := h
    subst h2
    exact ⟨v, r, F1, F2, h1, rfl, RdV.mono sz d v F1 (fun a ha => e a (List.mem_append_left _ ha)) h4, RdF.mono sz ds r F2 (fun a ha => e a (List.mem_append_right _ ha)) h5⟩
end
mutual
theorem RdV.live : ∀ (d : D) (v : V) (F : List Addr), RdV C Z H d v F → ∀ a ∈ F, H a ≠ none
  | .non, v, F, h => by rw [RdV] at h; rw [h.2]; intro a ha; cases ha
  | .bl _, v, F, h => by rw [RdV] at h; rw [h.2]; intro a ha; cases ha
  | .int _, v, F, h => by rw [RdV] at h; rw [h.2]; intro a ha; cases ha
  | .str _, v, F, h => by rw [RdV] at h; rw [h.2]; intro a ha; cases ha
  | .tup ds, v, F, h => by rw [RdV] at h; rw [h.1]; intro a ha; cases ha
  | .lst false ds, v, F, h => by rw [RdV] at h; rw [h.1]; intro a ha; cases ha
  | .dct false ds, v, F, h => by rw [RdV] at h; rw [h.1]; intro a ha; cases ha
  | .ins false c ds, v, F, h => by rw [RdV] at h; rw [h.1]; intro a ha; cases ha
  | .lst true ds, v, F, h => by
    rw [RdV] at h
    obtain ⟨a, vs, G, h1, h2, h3, h4⟩ := h
    subst h3
    intro b hb
    rcases List.mem_cons.mp hb with rfl | hb
    · rw [h2]; simp
    · exact RdL.live ds vs G h4 b hb
  | .dct true ds, v, F, h => by
    rw [RdV] at h
    obtain ⟨a, vs, G, h1, h2, h3, h4⟩ := h
    subst h3
    intro b hb
    rcases List.mem_cons.mp hb with rfl | hb
    · rw [h2]; simp
    · exact RdK.live ds vs G h4 b hb
  | .ins true c ds, v, F, h => by
    rw [RdV] at h
    obtain ⟨a, Ca, dx, vs, G, h1, h2, h3, h4, h5⟩ := h
    subst h4
    intro b hb
    rcases List.mem_cons.mp hb with rfl | hb
    · rw [h3]; simp
    · exact RdF.live ds vs G h5 b hb
  | .set ds, v, F, h => by rw [RdV] at h; rw [h.1]; intro a ha; cases ha
  | .scr ds, v, F, h => by rw [RdV] at h; rw [h.1]; intro a ha; cases ha
theorem RdL.live : ∀ (ds : List D) (vs : List V) (F : List Addr), RdL C Z H ds vs F → ∀ a ∈ F, H a ≠ none
  | [], vs, F, h => by rw [RdL] at h; rw [h.2]; intro a ha; cases ha
  | d :: ds, vs, F, h => by
    rw [RdL] at h
    obtain ⟨v, r, F1, F2, h1, h2, h3, h4⟩ := h
    subst h2
    intro a ha
    rcases List.mem_append.mp ha with ha | ha
    · exact RdV.live d v F1 h3 a ha
    · exact RdL.live ds r F2 h4 a ha
theorem RdK.live : ∀ (ds : List (D × D)) (vs : List (Key × V)) (F : List Addr), RdK C Z H ds vs F → ∀ a ∈ F, H a ≠ none
  | [], vs, F, h => by rw [RdK] at h; rw [h.2]; intro a ha; cases ha
  | (k, d) :: ds, vs, F, h => by
    rw [RdK] at h
    obtain ⟨q, v, r, F1, F2, h1, h2, h3, h4, h5⟩ := h
    subst h2
    intro a ha
    rcases List.mem_append.mp ha with ha | ha
    · exact RdV.live d v F1 h4 a ha
    · exact RdK.live ds r F2 h5 a ha
theorem RdF.live : ∀ (ds : List (String × D)) (vs : List (Str × V)) (F : List Addr), RdF C Z H ds vs F → ∀ a ∈ F, H a ≠ none
  | [], vs, F, h => by rw [RdF] at h; rw [h.2]; intro a ha; cases ha
  | (k, d) :: ds, vs, F, h => by
    rw [RdF] at h
    obtain ⟨v, r, F1, F2, h1, h2, h4, h5⟩ := h
    subst h2
    intro a ha
    rcases List.mem_append.mp ha with ha | ha
    · exact RdV.live d v F1 h4 a ha
    · exact RdF.live ds r F2 h5 a ha
end
/-- Z with what H holds at W -/
def Zw (Z H : Hp) (W : List Addr) : Hp := fun a => if a ∈ W then H a else Z a
theorem Zw.same {W : List Addr} (h : ∀ a ∈ W, Z a = none) : Same Z (Zw Z H W) := fun a o e => by
  unfold Zw
  by_cases hw : a ∈ W
  · rw [h a hw] at e; cases e
  · rw [if_neg hw]; exact e
theorem Zw.at {W : List Addr} {a : Addr} (h : a ∈ W) : Zw Z H W a = H a := if_pos h
mutual
theorem RdV.freeze {W : List Addr} (hz : ∀ a ∈ W, Z a = none) : ∀ (d : D) (v : V) (F : List Addr), (∀ a ∈ F, a ∈ W) → RdV C Z H d v F → RdV C (Zw Z H W) H' (fz d) v []
  | .non, v, F, _, h => by simpa [RdV, fz] using h.1
  | .bl _, v, F, _, h => by simpa [RdV, fz] using h.1
  | .int _, v, F, _, h => by simpa [RdV, fz] using h.1
  | .str _, v, F, _, h => by simpa [RdV, fz] using h.1
  | .tup ds, v, F, e, h => by
    rw [RdV] at h
    rw [fz, RdV]
    obtain ⟨hF, a, vs, h1, h2, h3⟩ := h
    exact ⟨rfl, a, vs, h1, Same.seqT (Zw.same hz) h2, RdL.freeze hz ds vs [] (fun a ha => by cases ha) h3⟩
  | .lst false ds, v, F, e, h => by
    rw [RdV] at h
    rw [fz, RdV]
    obtain ⟨hF, a, vs, h1, h2, h3⟩ := h
    exact ⟨rfl, a, vs, h1, (Zw.same hz) _ _ h2, RdL.freeze hz ds vs [] (fun a ha => by cases ha) h3⟩
  | .lst true ds, v, F, e, h => by
    rw [RdV] at h
    rw [fz, RdV]
    obtain ⟨a, vs, G, h1, h2, h3, h4⟩ := h
    subst h3
    exact ⟨rfl, a, vs, h1, by rw [Zw.at (e a (List.mem_cons_self ..))]; exact h2, RdL.freeze hz ds vs G (fun b hb => e b (List.mem_cons_of_mem _ hb)) h4⟩
  | .dct false kvs, v, F, e, h => by
    rw [RdV] at h
    rw [fz, RdV]
    obtain ⟨hF, a, vs, h1, h2, h3⟩ := h
    exact ⟨rfl, a, vs, h1, (Zw.same hz) _ _ h2, RdK.freeze hz kvs vs [] (fun a ha => by cases ha) h3⟩
  | .dct true kvs, v, F, e, h => by
    rw [RdV] at h
    rw [fz, RdV]
    obtain ⟨a, vs, G, h1, h2, h3, h4⟩ := h
    subst h3
    exact ⟨rfl, a, vs, h1, by rw [Zw.at (e a (List.mem_cons_self ..))]; exact h2, RdK.freeze hz kvs vs G (fun b hb => e b (List.mem_cons_of_mem _ hb)) h4⟩
  | .ins false c fs, v, F, e, h => by
    rw [RdV] at h
    rw [fz, RdV]
    obtain ⟨hF, a, Ca, dx, us, h1, h2, h3, h4⟩ := h
    exact ⟨rfl, a, Ca, dx, us, h1, h2, (Zw.same hz) _ _ h3, RdF.freeze hz fs us [] (fun a ha => by cases ha) h4⟩
  | .ins true c fs, v, F, e, h => by
    rw [RdV] at h
    rw [fz, RdV]
    obtain ⟨a, Ca, dx, us, G, h1, h2, h3, h4, h5⟩ := h
    subst h4
    exact ⟨rfl, a, Ca, dx, us, h1, h2, by rw [Zw.at (e a (List.mem_cons_self ..))]; exact h3, RdF.freeze hz fs us G (fun b hb => e b (List.mem_cons_of_mem _ hb)) h5⟩
  | .set ks, v, F, e, h => by
    rw [RdV] at h
    rw [fz, RdV]
    obtain ⟨hF, a, o, h1, h2, h3⟩ := h
    exact ⟨rfl, a, o, h1, (Zw.same hz) _ _ h2, h3⟩
  | .scr ds, v, F, e, h => by
    rw [RdV] at h
    rw [fz, RdV]
    obtain ⟨hF, a, vs, h1, h2, h3⟩ := h
    exact ⟨rfl, a, vs, h1, (Zw.same hz).seq h2, RdL.freeze hz ds vs [] (fun a ha => by cases ha) h3⟩
theorem RdL.freeze {W : List Addr} (hz : ∀ a ∈ W, Z a = none) : ∀ (ds : List D) (vs : List V) (F : List Addr), (∀ a ∈ F, a ∈ W) → RdL C Z H ds vs F → RdL C (Zw Z H W) H' (fzL ds) vs []
  | [], vs, F, _, h => by simpa [RdL, fzL] using h.1
  | d :: ds, vs, F, e, h => by
    rw [RdL] at h
    rw [fzL, RdL]
    obtain ⟨v, r, F1, F2, h1, h2, h3, h4⟩ := h
    subst h2
    exact ⟨v, r, [], [], h1, rfl, RdV.freeze hz d v F1 (fun a ha => e a (List.mem_append_left _ ha)) h3, RdL.freeze hz ds r F2 (fun a ha => e a (List.mem_append_right _ ha)) h4⟩
theorem RdK.freeze {W : List Addr} (hz : ∀ a ∈ W, Z a = none) : ∀ (ds : List (D × D)) (vs : List (Key × V)) (F : List Addr), (∀ a ∈ F, a ∈ W) → RdK C Z H ds vs F → RdK C (Zw Z H W) H' (fzK ds) vs []
  | [], vs, F, _, h => by simpa [RdK, fzK] using h.1
  | (k, d) :: ds, vs, F, e, h => by
    rw [RdK] at h
    rw [fzK, RdK]
    obtain ⟨q, v, r, F1, F2, h1, h2, h3, h4, h5⟩ := h
    subst h2
    exact ⟨q, v, r, [], [], h1, rfl, h3, RdV.freeze hz d v F1 (fun a ha => e a (List.mem_append_left _ ha)) h4, RdK.freeze hz ds r F2 (fun a ha => e a (List.mem_append_right _ ha)) h5⟩
theorem RdF.freeze {W : List Addr} (hz : ∀ a ∈ W, Z a = none) : ∀ (ds : List (String × D)) (vs : List (Str × V)) (F : List Addr), (∀ a ∈ F, a ∈ W) → RdF C Z H ds vs F → RdF C (Zw Z H W) H' (fzF ds) vs []
  | [], vs, F, _, h => by simpa [RdF, fzF] using h.1
  | (k, d) :: ds, vs, F, e, h => by
    rw [RdF] at h
    rw [fzF, RdF]
    obtain ⟨v, r, F1, F2, h1, h2, h4, h5⟩ := h
    subst h2
    exact ⟨v, r, [], [], h1, rfl, RdV.freeze hz d v F1 (fun a ha => e a (List.mem_append_left _ ha)) h4, RdF.freeze hz ds r F2 (fun a ha => e a (List.mem_append_right _ ha)) h5⟩
end
mutual
theorem RdV.fzn : ∀ (d : D) (v : V) (F : List Addr), Mi.fzn d = true → RdV C Z H d v F → F = []
  | .non, v, F, _, h => by rw [RdV] at h; exact h.2
  | .bl _, v, F, _, h => by rw [RdV] at h; exact h.2
  | .int _, v, F, _, h => by rw [RdV] at h; exact h.2
  | .str _, v, F, _, h => by rw [RdV] at h; exact h.2
  | .tup ds, v, F, _, h => by rw [RdV] at h; exact h.1
  | .lst false ds, v, F, _, h => by rw [RdV] at h; exact h.1
  | .dct false ds, v, F, _, h => by rw [RdV] at h; exact h.1
  | .ins false c ds, v, F, _, h => by rw [RdV] at h; exact h.1
  | .lst true ds, v, F, e, h => by simp [Mi.fzn] at e
  | .dct true ds, v, F, e, h => by simp [Mi.fzn] at e
  | .ins true c ds, v, F, e, h => by simp [Mi.fzn] at e
  | .set ds, v, F, _, h => by rw [RdV] at h; exact h.1
  | .scr ds, v, F, _, h => by rw [RdV] at h; exact h.1
end
theorem RdL.fznL : ∀ (ds : List D) (vs : List V) (F : List Addr), Mi.fznL ds = true → RdL C Z H ds vs F → F = []
  | [], vs, F, _, h => by rw [RdL] at h; exact h.2
  | d :: ds, vs, F, e, h => by
    rw [RdL] at h
    rw [Mi.fznL, Bool.and_eq_true] at e
    obtain ⟨v, r, F1, F2, h1, h2, h3, h4⟩ := h
    rw [h2, RdV.fzn d v F1 e.1 h3, RdL.fznL ds r F2 e.2 h4]
    rfl
end

/-! ### the two heaps and the owned places -/
structure Ok (Z H : Hp) (F : List Addr) : Prop where
  zh : Same Z H
  zf : ∀ a ∈ F, Z a = none
  nd : F.Nodup
  live : ∀ a ∈ F, H a ≠ none
structure Ext (Z H : Hp) (F : List Addr) (Z' H' : Hp) (F' : List Addr) : Prop where
  zz : Same Z Z'
  ok : Ok Z' H' F'
  keep : ∀ b o, H b = some o → b ∉ F → H' b = some o
  fr : ∀ a ∈ F', a ∈ F ∨ H a = none
  zr : ∀ a, Z' a ≠ none → Z a ≠ none ∨ a ∈ F ∨ H a = none
section
variable {Z H Z' H' Z1 H1 Z2 H2 : Hp} {F F' F1 F2 G : List Addr}
theorem Ok.sub (h : Ok Z H F) (nd : G.Nodup) (s : ∀ a ∈ G, a ∈ F) : Ok Z H G := ⟨h.zh, fun a ha => h.zf a (s a ha), nd, fun a ha => h.live a (s a ha)⟩
theorem Ext.refl (h : Ok Z H F) : Ext Z H F Z H F := ⟨Same.refl _, h, fun _ _ e _ => e, fun _ h => .inl h, fun _ h => .inl h⟩
theorem Ext.sub (x : Ext Z H F Z' H' F') (nd : G.Nodup) (s : ∀ a ∈ G, a ∈ F') : Ext Z H F Z' H' G :=
  ⟨x.zz, x.ok.sub nd s, x.keep, fun a ha => x.fr a (s a ha), x.zr⟩
theorem Ext.left (x : Ext Z H F Z' H' F') (s : ∀ a ∈ F, a ∈ G) : Ext Z H G Z' H' F' :=
  ⟨x.zz, x.ok, fun b o e n => x.keep b o e fun z => n (s b z), fun a ha => (x.fr a ha).imp (s a) id, fun a h => (x.zr a h).imp id fun z => z.imp (s a) id⟩
theorem Ext.trans (x : Ext Z H F Z1 H1 F1) (y : Ext Z1 H1 F1 Z2 H2 F2) : Ext Z H F Z2 H2 F2 := by
  have back : ∀ a, H1 a = none → a ∈ F ∨ H a = none := fun a h => by
    cases e : H a with
    | none => exact .inr rfl
    | some o =>
      refine .inl (Classical.byContradiction fun n => ?_)
      rw [x.keep a o e n] at h
      cases h
  refine ⟨x.zz.trans y.zz, y.ok, fun b o e n => y.keep b o (x.keep b o e n) fun z => ?_, fun a ha => ?_, fun a h => ?_⟩
  · rcases x.fr b z with z | z
    · exact n z
    · rw [e] at z; cases z
  · rcases y.fr a ha with z | z
    · exact x.fr a z
    · exact back a z
  · rcases y.zr a h with z | z | z
    · exact x.zr a z
    · exact .inr (x.fr a z)
    · exact .inr (back a z)
/-- what is held besides stays held -/
theorem Ext.frame (x : Ext Z H F Z' H' F') (o : Ok Z H (F ++ G)) : Ext Z H (F ++ G) Z' H' (F' ++ G) := by
  have hd : ∀ a ∈ G, a ∉ F := fun a ha hf => (List.nodup_append.mp o.nd).2.2 a hf a ha rfl
  have hg : ∀ a ∈ G, a ∉ F' := fun a ha hf => by
    rcases x.fr a hf with z | z
    · exact hd a ha z
    · exact o.live a (List.mem_append_right _ ha) z
  refine ⟨x.zz, ⟨x.ok.zh, fun a ha => ?_, ?_, fun a ha => ?_⟩, fun b u e n => x.keep b u e fun z => n (List.mem_append_left _ z), fun a ha => ?_, fun a h => ?_⟩
  · rcases List.mem_append.mp ha with ha | ha
    · exact x.ok.zf a ha
    · cases e : Z' a with
      | none => rfl
      | some u =>
        rcases x.zr a (by rw [e]; simp) with z | z | z
        · exact absurd (o.zf a (List.mem_append_right _ ha)) z
        · exact absurd z (hd a ha)
        · exact absurd z (o.live a (List.mem_append_right _ ha))
  · refine List.nodup_append.mpr ⟨x.ok.nd, (List.nodup_append.mp o.nd).2.1, fun a ha b hb e => ?_⟩
    subst e
    exact hg a hb ha
  · rcases List.mem_append.mp ha with ha | ha
    · exact x.ok.live a ha
    · cases e : H a with
      | none => exact absurd e (o.live a (List.mem_append_right _ ha))
      | some u => rw [x.keep a u e (hd a ha)]; simp
  · rcases List.mem_append.mp ha with ha | ha
    · exact (x.fr a ha).imp (List.mem_append_left _) id
    · exact .inl (List.mem_append_right _ ha)
  · exact (x.zr a h).imp id fun z => z.imp (List.mem_append_left _) id
/-- .. and reads as it did -/
theorem Ext.held {C : Ct} {d : D} {v : V} (x : Ext Z H F Z' H' F') (hd : ∀ a ∈ G, a ∉ F) (r : RdV C Z H d v G) : RdV C Z' H' d v G := by
  refine RdV.mono x.zz d v G (fun a ha => ?_) r
  have := RdV.live d v G r a ha
  cases e : H a with
  | none => exact absurd e this
  | some u => rw [x.keep a u e (hd a ha)]
theorem Ext.new {p : Addr} {o : HO} (h : Ok Z H F) (hp : H p = none) : Ext Z H F Z (upd H p o) (p :: F) := by
  have hz : Z p = none := h.zh.free hp
  refine ⟨Same.refl _, ⟨fun a u e => ?_, fun a ha => ?_, ?_, fun a ha => ?_⟩, fun b u e n => ?_, fun a ha => ?_, fun a h => .inl h⟩
  · rw [upd_ne (ne_of_none e hz)]; exact h.zh _ _ e
  · rcases List.mem_cons.mp ha with rfl | ha
    · exact hz
    · exact h.zf a ha
  · refine List.nodup_cons.mpr ⟨fun z => h.live p z hp, h.nd⟩
  · rcases List.mem_cons.mp ha with rfl | ha
    · rw [upd_same]; simp
    · rw [upd_ne (fun z : a = p => h.live a ha (by rw [z]; exact hp))]; exact h.live a ha
  · rw [upd_ne (ne_of_none e hp)]; exact e
  · rcases List.mem_cons.mp ha with rfl | ha
    · exact .inr hp
    · exact .inl ha
theorem Ext.newZ {p : Addr} {o : HO} (h : Ok Z H F) (hp : H p = none) : Ext Z H F (upd Z p o) (upd H p o) F := by
  have hz : Z p = none := h.zh.free hp
  refine ⟨same_new hz, ⟨fun a u e => ?_, fun a ha => ?_, h.nd, fun a ha => ?_⟩, fun b u e n => ?_, fun a ha => .inl ha, fun a e => ?_⟩
  · by_cases q : a = p
    · subst q; rw [upd_same] at e ⊢; exact e
    · rw [upd_ne q] at e ⊢; exact h.zh _ _ e
  · rw [upd_ne (fun z : a = p => h.live a ha (by rw [z]; exact hp))]; exact h.zf a ha
  · rw [upd_ne (fun z : a = p => h.live a ha (by rw [z]; exact hp))]; exact h.live a ha
  · rw [upd_ne (ne_of_none e hp)]; exact e
  · by_cases q : a = p
    · subst q; exact .inr (.inr hp)
    · rw [upd_ne q] at e; exact .inl e
/-- a new thing that nobody looks at -/
theorem Ext.junk {p : Addr} {o : HO} (h : Ok Z H F) (hp : H p = none) : Ext Z H F Z (upd H p o) F :=
  (Ext.new h hp).sub h.nd fun a ha => List.mem_cons_of_mem _ ha
theorem Ext.mut {a : Addr} {o : HO} (h : Ok Z H F) (ha : a ∈ F) : Ext Z H F Z (upd H a o) F := by
  refine ⟨Same.refl _, ⟨fun b u e => ?_, h.zf, h.nd, fun b hb => ?_⟩, fun b u e n => ?_, fun b hb => .inl hb, fun b e => .inl e⟩
  · rw [upd_ne (fun z => by subst z; rw [h.zf _ ha] at e; cases e)]; exact h.zh _ _ e
  · by_cases q : b = a
    · subst q; rw [upd_same]; simp
    · rw [upd_ne q]; exact h.live b hb
  · rw [upd_ne (fun z : b = a => n (by rw [z]; exact ha))]; exact e
theorem Ext.freeze (h : Ok Z H (G ++ F)) : Ext Z H (G ++ F) (Zw Z H G) H F := by
  have hd : ∀ a ∈ F, a ∉ G := fun a ha hg => (List.nodup_append.mp h.nd).2.2 a hg a ha rfl
  have hz : ∀ a ∈ G, Z a = none := fun a ha => h.zf a (List.mem_append_left _ ha)
  refine ⟨Zw.same hz, ⟨fun a o e => ?_, fun a ha => ?_, (List.nodup_append.mp h.nd).2.1, fun a ha => h.live a (List.mem_append_right _ ha)⟩, fun b o e _ => e,
    fun a ha => .inl (List.mem_append_right _ ha), fun a e => ?_⟩
  · unfold Zw at e
    by_cases q : a ∈ G
    · rw [if_pos q] at e; exact e
    · rw [if_neg q] at e; exact h.zh _ _ e
  · unfold Zw
    rw [if_neg (hd a ha)]
    exact h.zf a (List.mem_append_right _ ha)
  · by_cases q : a ∈ G
    · exact .inr (.inl (List.mem_append_left _ q))
    · unfold Zw at e; rw [if_neg q] at e; exact .inl e
end

/-! ### the names of a def -/
abbrev Env := List (Option D)
def RdE (C : Ct) (Z H : Hp) : Env → L2.St → List Addr → Prop
  | [], σ, F => σ = [] ∧ F = []
  | none :: e, σ, F => ∃ x s, σ = x :: s ∧ RdE C Z H e s F
  | some d :: e, σ, F => ∃ v s F1 F2, σ = some v :: s ∧ F = F1 ++ F2 ∧ RdV C Z H d v F1 ∧ RdE C Z H e s F2
section
variable {C : Ct} {Z H Z' H' : Hp}
theorem RdE.length : ∀ {env : Env} {σ : L2.St} {F : List Addr}, RdE C Z H env σ F → env.length = σ.length
  | [], _, _, h => by rw [h.1]; rfl
  | none :: e, _, _, h => by obtain ⟨x, s, rfl, h⟩ := h; simp [RdE.length h]
  | some d :: e, _, _, h => by obtain ⟨v, s, F1, F2, rfl, _, _, h⟩ := h; simp [RdE.length h]
theorem RdE.mono (sz : Same Z Z') : ∀ {env : Env} {σ : L2.St} {F : List Addr}, (∀ a ∈ F, H' a = H a) → RdE C Z H env σ F → RdE C Z' H' env σ F
  | [], _, _, _, h => h
  | none :: e, _, _, he, h => by obtain ⟨x, s, rfl, h⟩ := h; exact ⟨x, s, rfl, RdE.mono sz he h⟩
  | some d :: e, _, _, he, h => by
    obtain ⟨v, s, F1, F2, rfl, rfl, r, h⟩ := h
    exact ⟨v, s, F1, F2, rfl, rfl, RdV.mono sz d v F1 (fun a ha => he a (List.mem_append_left _ ha)) r, RdE.mono sz (fun a ha => he a (List.mem_append_right _ ha)) h⟩
theorem RdE.live : ∀ {env : Env} {σ : L2.St} {F : List Addr}, RdE C Z H env σ F → ∀ a ∈ F, H a ≠ none
  | [], _, _, h => by rw [h.2]; intro a ha; cases ha
  | none :: e, _, _, h => by obtain ⟨x, s, rfl, h⟩ := h; exact RdE.live h
  | some d :: e, _, _, h => by
    obtain ⟨v, s, F1, F2, rfl, rfl, r, h⟩ := h
    intro a ha
    rcases List.mem_append.mp ha with ha | ha
    · exact RdV.live d v F1 r a ha
    · exact RdE.live h a ha
/-- a name is taken out -/
theorem RdE.take : ∀ {env : Env} {σ : L2.St} {F : List Addr} {i : Nat} {d : D}, RdE C Z H env σ F → env[i]? = some (some d) →
    ∃ v F1 F2, σ[i]? = some (some v) ∧ RdV C Z H d v F1 ∧ F.Perm (F1 ++ F2) ∧ RdE C Z H (env.set i none) σ F2
  | [], _, _, i, d, h, e => by simp at e
  | none :: r, _, _, 0, d, h, e => by simp at e
  | none :: r, _, _, i + 1, d, h, e => by
    obtain ⟨x, s, rfl, h⟩ := h
    obtain ⟨v, F1, F2, h1, h2, h3, h4⟩ := RdE.take (i := i) h (by simpa using e)
    exact ⟨v, F1, F2, by simpa using h1, h2, h3, ⟨x, s, rfl, h4⟩⟩
  | some d0 :: r, _, _, 0, d, h, e => by
    obtain ⟨v, s, F1, F2, rfl, rfl, q, h⟩ := h
    obtain rfl : d0 = d := by simpa using e
    exact ⟨v, F1, F2, rfl, q, List.Perm.refl _, ⟨some v, s, rfl, h⟩⟩
  | some d0 :: r, _, _, i + 1, d, h, e => by
    obtain ⟨v0, s, G1, G2, rfl, rfl, q, h⟩ := h
    obtain ⟨v, F1, F2, h1, h2, h3, h4⟩ := RdE.take (i := i) h (by simpa using e)
    refine ⟨v, F1, G1 ++ F2, by simpa using h1, h2, ?_, ⟨v0, s, G1, F2, rfl, rfl, q, h4⟩⟩
    refine (List.Perm.append_left G1 h3).trans ?_
    rw [← List.append_assoc, ← List.append_assoc]
    exact List.Perm.append_right F2 List.perm_append_comm
/-- a name is forgotten -/
theorem RdE.drop : ∀ {env : Env} {σ : L2.St} {F : List Addr} (i : Nat), RdE C Z H env σ F → ∃ F2, F2.Sublist F ∧ RdE C Z H (env.set i none) σ F2
  | [], _, _, i, h => ⟨_, List.Sublist.refl _, by simpa using h⟩
  | none :: r, _, F, 0, h => ⟨F, List.Sublist.refl _, h⟩
  | none :: r, _, _, i + 1, h => by
    obtain ⟨x, s, rfl, h⟩ := h
    obtain ⟨F2, h1, h2⟩ := RdE.drop i h
    exact ⟨F2, h1, ⟨x, s, rfl, h2⟩⟩
  | some d0 :: r, _, _, 0, h => by
    obtain ⟨v, s, F1, F2, rfl, rfl, q, h⟩ := h
    exact ⟨F2, List.sublist_append_right .., ⟨some v, s, rfl, h⟩⟩
  | some d0 :: r, _, _, i + 1, h => by
    obtain ⟨v, s, F1, F2, rfl, rfl, q, h⟩ := h
    obtain ⟨F3, h1, h2⟩ := RdE.drop i h
    exact ⟨F1 ++ F3, List.Sublist.append_left h1 F1, ⟨v, s, F1, F3, rfl, rfl, q, h2⟩⟩
/-- a name is given -/
theorem RdE.put : ∀ {env : Env} {σ : L2.St} {F2 F1 : List Addr} {i : Nat} {d : D} {v : V}, RdE C Z H (env.set i none) σ F2 → i < env.length → RdV C Z H d v F1 →
    ∃ F, F.Perm (F1 ++ F2) ∧ RdE C Z H (env.set i (some d)) (σ.set i (some v)) F
  | [], _, _, _, i, d, v, h, e, r => by simp at e
  | x :: env, σ, F2, F1, 0, d, v, h, e, r => by
    obtain ⟨y, s, rfl, h⟩ := h
    exact ⟨F1 ++ F2, List.Perm.refl _, ⟨v, s, F1, F2, rfl, rfl, r, h⟩⟩
  | none :: env, σ, F2, F1, i + 1, d, v, h, e, r => by
    obtain ⟨y, s, rfl, h⟩ := h
    obtain ⟨F, h1, h2⟩ := RdE.put h (by simpa using e) r
    exact ⟨F, h1, ⟨y, _, rfl, h2⟩⟩
  | some d0 :: env, σ, F2, F1, i + 1, d, v, h, e, r => by
    obtain ⟨v0, s, G1, G2, rfl, rfl, q, h⟩ := h
    obtain ⟨F, h1, h2⟩ := RdE.put h (by simpa using e) r
    refine ⟨G1 ++ F, ?_, ⟨v0, _, G1, F, rfl, rfl, q, h2⟩⟩
    refine (List.Perm.append_left G1 h1).trans ?_
    rw [← List.append_assoc, ← List.append_assoc]
    exact List.Perm.append_right G2 List.perm_append_comm
theorem Ext.heldE {F F' G : List Addr} {env : Env} {σ : L2.St} (x : Ext Z H F Z' H' F') (hd : ∀ a ∈ G, a ∉ F) (r : RdE C Z H env σ G) : RdE C Z' H' env σ G := by
  refine RdE.mono x.zz (fun a ha => ?_) r
  have := RdE.live r a ha
  cases e : H a with
  | none => exact absurd e this
  | some u => rw [x.keep a u e (hd a ha)]
end
end Mi

set_option maxHeartbeats 4000000
namespace Mi
open PySem PySem.Spec PyProof.Rows L2 RZ Ov

/-! ### what a mirror gives -/
structure Exn where
  c : String
  fs : List (String × D)
inductive R (α : Type) where
  | ok (a : α) (env : Env)
  | ex (x : Exn) (env : Env)
  | no
def R.bind {α β : Type} (r : R α) (f : α → Env → R β) : R β :=
  match r with
  | .ok a e => f a e
  | .ex x e => .ex x e
  | .no => .no
@[simp] theorem R.bind_ok {α β : Type} {a : α} {e : Env} {f : α → Env → R β} : (R.ok a e).bind f = f a e := rfl
@[simp] theorem R.bind_ex {α β : Type} {x : Exn} {e : Env} {f : α → Env → R β} : (R.ex x e).bind f = R.ex x e := rfl
@[simp] theorem R.bind_no {α β : Type} {f : α → Env → R β} : (R.no : R α).bind f = R.no := rfl
abbrev ME := Env → R D
abbrev MB := Env → R Bool
abbrev ML := Env → R (List D)
inductive Fl where
  | nx
  | rt (d : D)
  | bk
  | ct
abbrev MS := Env → R Fl

/-- what a body wants of exceptions; the names that are never given anew -/
structure Cn where
  C : Ct
  px : Option (Value → Option Addr → L2.St → Hp → Prop)
  pin : List Nat
def Pin (ps : List Nat) (σ σ' : L2.St) : Prop := σ'.length = σ.length ∧ ∀ i ∈ ps, σ'[i]? = σ[i]?
theorem Pin.refl (ps : List Nat) (σ : L2.St) : Pin ps σ σ := ⟨rfl, fun _ _ => rfl⟩
theorem Pin.trans {ps : List Nat} {σ σ1 σ2 : L2.St} (a : Pin ps σ σ1) (b : Pin ps σ1 σ2) : Pin ps σ σ2 := ⟨b.1.trans a.1, fun i h => (b.2 i h).trans (a.2 i h)⟩
def Wish (N : Cn) (σ : L2.St) (Z H : Hp) (F : List Addr) (x : Exn) (env : Env) : Prop :=
  match N.px with
  | none => False
  | some W => ∀ σ' a Ca Z' H' F' us, Pin N.pin σ σ' → Ext Z H F Z' H' F' → RdE N.C Z' H' env σ' F' → N.C.cls x.c = some Ca → H' a = some (.xd us) → RdF N.C Z' H' x.fs us [] → W (.ref Ca) (some a) σ' H'
def Wp (N : Cn) (σ : L2.St) (Z H : Hp) (F : List Addr) {α : Type} (r : R α) (k : α → Env → Prop) : Prop :=
  match r with
  | .ok a e => k a e
  | .ex x e => Wish N σ Z H F x e
  | .no => False
section
variable {N : Cn} {σ σ' : L2.St} {Z H Z' H' : Hp} {F F' : List Addr} {α β : Type}
theorem Wish.trans {x : Exn} {env : Env} (w : Wish N σ Z H F x env) (p : Pin N.pin σ σ') (e : Ext Z H F Z' H' F') : Wish N σ' Z' H' F' x env := by
  unfold Wish at w ⊢
  split at w
  · exact w
  · intro σ2 a Ca Z2 H2 F2 us p2 e2
    exact w σ2 a Ca Z2 H2 F2 us (p.trans p2) (e.trans e2)
theorem Wp.mono {r : R α} {k k' : α → Env → Prop} (w : Wp N σ Z H F r k) (p : Pin N.pin σ σ') (e : Ext Z H F Z' H' F') (h : ∀ a env, k a env → k' a env) : Wp N σ' Z' H' F' r k' := by
  cases r with
  | ok a env => exact h a env w
  | ex x env => exact Wish.trans w p e
  | no => exact w
theorem Wp.bind {r : R α} {f : α → Env → R β} {k : β → Env → Prop} (w : Wp N σ Z H F (r.bind f) k) : Wp N σ Z H F r fun a env => Wp N σ Z H F (f a env) k := by
  cases r with
  | ok a env => exact w
  | ex x env => exact w
  | no => exact w
end

/-- an expression: its value may be kept -/
def RefE (N : Cn) (st : Bool) (t : TE) (m : ME) : Prop := ∀ env σ Z H F Q, Ok Z H F → RdE N.C Z H env σ F →
  Wp N σ Z H F (m env) (fun d env' => ∀ v Z' H' Fv F', Ext Z H F Z' H' (Fv ++ F') → RdV N.C Z' H' d v Fv → RdE N.C Z' H' env' σ F' → (st = true → Same H H') → Q v H') → t σ H Q
/-- .. its value is looked at once -/
def RefT (N : Cn) (st : Bool) (t : TE) (m : ME) : Prop := ∀ env σ Z H F Q, Ok Z H F → RdE N.C Z H env σ F →
  Wp N σ Z H F (m env) (fun d env' => ∀ v Z' H' Fv F', Ext Z H F Z' H' F' → RdV N.C Z' H' d v Fv → RdE N.C Z' H' env' σ F' → (st = true → Same H H') → Q v H') → t σ H Q
def RefB (N : Cn) (st : Bool) (t : TT) (m : MB) : Prop := ∀ env σ Z H F Q, Ok Z H F → RdE N.C Z H env σ F →
  Wp N σ Z H F (m env) (fun b env' => ∀ Z' H' F', Ext Z H F Z' H' F' → RdE N.C Z' H' env' σ F' → (st = true → Same H H') → Q b H') → t σ H Q
/-- arguments -/
def RefA (N : Cn) (st : Bool) (t : TA) (m : ML) : Prop := ∀ env σ Z H F Q, Ok Z H F → RdE N.C Z H env σ F →
  Wp N σ Z H F (m env) (fun ds env' => ∀ vs Z' H' Fv F', Ext Z H F Z' H' (Fv ++ F') → RdL N.C Z' H' ds vs Fv → RdE N.C Z' H' env' σ F' → (st = true → Same H H') → Q vs H') → t σ H Q
/-- each reads -/
def RdA (C : Ct) (Z H : Hp) : List D → List V → Prop
  | [], vs => vs = []
  | d :: ds, vs => ∃ v r F, vs = v :: r ∧ RdV C Z H d v F ∧ RdA C Z H ds r
def RefTA (N : Cn) (st : Bool) (t : TA) (m : ML) : Prop := ∀ env σ Z H F Q, Ok Z H F → RdE N.C Z H env σ F →
  Wp N σ Z H F (m env) (fun ds env' => ∀ vs Z' H' F', Ext Z H F Z' H' F' → RdA N.C Z' H' ds vs → RdE N.C Z' H' env' σ F' → (st = true → Same H H') → Q vs H') → t σ H Q

section
variable {N : Cn} {C : Ct} {Z H Z' H' : Hp} {F F' G Fv : List Addr}
theorem nodup_right {A B : List Addr} (h : (A ++ B).Nodup) : B.Nodup := (List.nodup_append.mp h).2.1
theorem nodup_left {A B : List Addr} (h : (A ++ B).Nodup) : A.Nodup := (List.nodup_append.mp h).1
theorem Ext.right (x : Ext Z H F Z' H' (Fv ++ F')) : Ext Z H F Z' H' F' := x.sub (nodup_right x.ok.nd) fun a ha => List.mem_append_right _ ha
theorem RefE.toT {st : Bool} {t : TE} {m : ME} (h : RefE N st t m) : RefT N st t m := fun env σ Z H F Q o r w =>
  h env σ Z H F Q o r (w.mono (Pin.refl _ _) (Ext.refl o) fun d env' k v Z' H' Fv F' x rv re s => k v Z' H' Fv F' x.right rv re s)
theorem RefE.weak {t : TE} {m : ME} {st : Bool} (h : RefE N st t m) : RefE N false t m := fun env σ Z H F Q o r w =>
  h env σ Z H F Q o r (w.mono (Pin.refl _ _) (Ext.refl o) fun d env' k v Z' H' Fv F' x rv re s => k v Z' H' Fv F' x rv re fun z => by cases z)
theorem RdE.same {env : Env} {σ : L2.St} (h : RdE C Z H env σ F) (zz : Same Z Z') (s : Same H H') : RdE C Z' H' env σ F := by
  refine RdE.mono zz (fun a ha => ?_) h
  cases e : H a with
  | none => exact absurd e (RdE.live h a ha)
  | some o => exact s a o e
theorem RdV.same {d : D} {v : V} (h : RdV C Z H d v F) (zz : Same Z Z') (s : Same H H') : RdV C Z' H' d v F := by
  refine RdV.mono zz d v F (fun a ha => ?_) h
  cases e : H a with
  | none => exact absurd e (RdV.live d v F h a ha)
  | some o => exact s a o e
theorem RdL.same {d : List D} {v : List V} (h : RdL C Z H d v F) (zz : Same Z Z') (s : Same H H') : RdL C Z' H' d v F := by
  refine RdL.mono zz d v F (fun a ha => ?_) h
  cases e : H a with
  | none => exact absurd e (RdL.live d v F h a ha)
  | some o => exact s a o e
theorem RdV.frozen {d : D} {v : V} (h : RdV C Z H d v []) (zz : Same Z Z') (H' : Hp) : RdV C Z' H' d v [] := RdV.mono zz d v [] (fun a ha => by cases ha) h
theorem RdL.frozen {d : List D} {v : List V} (h : RdL C Z H d v []) (zz : Same Z Z') (H' : Hp) : RdL C Z' H' d v [] := RdL.mono zz d v [] (fun a ha => by cases ha) h
theorem RdL.toA : ∀ {ds : List D} {vs : List V} {F : List Addr}, RdL C Z H ds vs F → RdA C Z H ds vs
  | [], _, _, h => by rw [RdL] at h; exact h.1
  | d :: ds, _, _, h => by
    rw [RdL] at h
    obtain ⟨v, r, F1, F2, h1, _, h3, h4⟩ := h
    exact ⟨v, r, F1, h1, h3, RdL.toA h4⟩
theorem RdA.same : ∀ {ds : List D} {vs : List V}, RdA C Z H ds vs → Same Z Z' → Same H H' → RdA C Z' H' ds vs
  | [], _, h, _, _ => h
  | d :: ds, _, h, zz, s => by
    obtain ⟨v, r, F, h1, h2, h3⟩ := h
    exact ⟨v, r, F, h1, h2.same zz s, RdA.same h3 zz s⟩

/-! ### leaves -/
def eC (d : D) : ME := fun env => .ok d env
/-- a name that is looked at -/
def eV (i : Nat) : ME := fun env => match env[i]? with | some (some d) => .ok d env | _ => .no
/-- a name whose value is kept elsewhere: it is frozen -/
def eVz (i : Nat) : ME := fun env => match env[i]? with | some (some d) => .ok (fz d) (env.set i (some (fz d))) | _ => .no
/-- a name whose value is handed on: it is forgotten -/
def eMv (i : Nat) : ME := fun env => match env[i]? with | some (some d) => .ok d (env.set i none) | _ => .no
/-- what was looked at and holds no owned node -/
def eK (m : ME) : ME := fun env => (m env).bind fun d e => if fzn d then .ok d e else .no
theorem re_c {d : D} {v : V} (h : ∀ Z H, RdV N.C Z H d v []) : RefE N true (tC v) (eC d) := fun env σ Z H F Q o r w =>
  w v Z H [] F (Ext.refl o) (h Z H) r fun _ => Same.refl _
theorem re_int {i : Int} : RefE N true (tC (.int i)) (eC (.int i)) := re_c fun _ _ => ⟨rfl, rfl⟩
theorem re_bl {i : Bool} : RefE N true (tC (.bl i)) (eC (.bl i)) := re_c fun _ _ => ⟨rfl, rfl⟩
theorem re_str {i : Str} : RefE N true (tC (.str i)) (eC (.str i)) := re_c fun _ _ => ⟨rfl, rfl⟩
theorem re_non : RefE N true (tC .non) (eC .non) := re_c fun _ _ => ⟨rfl, rfl⟩
theorem rt_v {i : Nat} : RefT N true (tVar i) (eV i) := fun env σ Z H F Q o r w => by
  unfold eV at w
  split at w
  · rename_i d e
    obtain ⟨v, F1, F2, h1, h2, h3, h4⟩ := r.take e
    exact ⟨v, h1, w v Z H F1 F (Ext.refl o) h2 r fun _ => Same.refl _⟩
  · exact w.elim
theorem perm_mem {A B : List Addr} (h : A.Perm B) : ∀ a ∈ B, a ∈ A := fun a ha => h.mem_iff.mpr ha
theorem re_vz {i : Nat} : RefE N true (tVar i) (eVz i) := fun env σ Z H F Q o r w => by
  unfold eVz at w
  split at w
  · rename_i d e
    obtain ⟨v, F1, F2, h1, h2, h3, h4⟩ := r.take e
    have o2 : Ok Z H (F1 ++ F2) := o.sub (h3.nodup_iff.mp o.nd) (perm_mem h3)
    have x := Ext.freeze o2
    have hv := RdV.freeze (H' := H) (fun a ha => o2.zf a (List.mem_append_left _ ha)) d v F1 (fun a ha => ha) h2
    have h4' : RdE N.C (Zw Z H F1) H (env.set i none) σ F2 := h4.same x.zz (Same.refl _)
    have hlt : i < env.length := by
      rcases Nat.lt_or_ge i env.length with z | z
      · exact z
      · rw [List.getElem?_eq_none z] at e; cases e
    obtain ⟨G, g1, g2⟩ := RdE.put (i := i) h4' hlt hv
    have es : σ.set i (some v) = σ := by
      refine List.ext_getElem? fun j => ?_
      rw [List.getElem?_set]
      by_cases q : i = j
      · subst q
        rw [if_pos rfl, h1, if_pos (by rw [← r.length]; exact hlt)]
      · rw [if_neg q]
    rw [es] at g2
    refine ⟨v, h1, w v (Zw Z H F1) H [] G ?_ hv g2 fun _ => Same.refl _⟩
    refine (x.left (perm_mem h3)).sub ?_ fun a ha => by simpa using g1.mem_iff.mp ha
    exact (g1.nodup_iff).mpr (by simpa using x.ok.nd)
  · exact w.elim
theorem re_mv {i : Nat} : RefE N true (tVar i) (eMv i) := fun env σ Z H F Q o r w => by
  unfold eMv at w
  split at w
  · rename_i d e
    obtain ⟨v, F1, F2, h1, h2, h3, h4⟩ := r.take e
    exact ⟨v, h1, w v Z H F1 F2 ((Ext.refl o).sub (h3.nodup_iff.mp o.nd) (perm_mem h3)) h2 h4 fun _ => Same.refl _⟩
  · exact w.elim
theorem re_k {st : Bool} {t : TE} {m : ME} (h : RefT N st t m) : RefE N st t (eK m) := fun env σ Z H F Q o r w => by
  refine h env σ Z H F Q o r (w.bind.mono (Pin.refl _ _) (Ext.refl o) ?_)
  intro d env' k v Z' H' Fv F' x rv re s
  by_cases q : fzn d = true
  · rw [if_pos q] at k
    have := RdV.fzn d v Fv q rv
    subst this
    exact k v Z' H' [] F' x rv re s
  · rw [if_neg q] at k
    exact k.elim

/-! ### arguments -/
def lNil : ML := fun env => .ok [] env
def lCons (m : ME) (ms : ML) : ML := fun env => (m env).bind fun d e => (ms e).bind fun ds e => .ok (d :: ds) e
theorem ra_nil : RefA N true tNil lNil := fun env σ Z H F Q o r w => w [] Z H [] F (Ext.refl o) ⟨rfl, rfl⟩ r fun _ => Same.refl _
/-- held things stay while the rest is reckoned -/
theorem Ok.split (o : Ok Z H (Fv ++ F)) : Ok Z H F := o.sub (nodup_right o.nd) fun a ha => List.mem_append_right _ ha
theorem Ok.disj (o : Ok Z H (Fv ++ F)) : ∀ a ∈ Fv, a ∉ F := fun a ha hf => (List.nodup_append.mp o.nd).2.2 a ha a hf rfl
theorem Ext.hold (x : Ext Z H F Z' H' F') (o : Ok Z H (Fv ++ F)) : Ext Z H (Fv ++ F) Z' H' (Fv ++ F') := by
  have o2 : Ok Z H (F ++ Fv) := o.sub (List.perm_append_comm.nodup_iff.mp o.nd) fun a ha => by simpa [or_comm] using ha
  have y := (x.frame o2).left (G := Fv ++ F) fun a ha => by simpa [or_comm] using ha
  exact y.sub (List.perm_append_comm.nodup_iff.mp y.ok.nd) fun a ha => by simpa [or_comm] using ha
theorem ra_cons {s1 s2 : Bool} {t : TE} {u : TA} {m : ME} {ms : ML} (h : RefE N s1 t m) (hs : RefA N s2 u ms) : RefA N (s1 && s2) (tCons t u) (lCons m ms) := fun env σ Z H F Q o r w => by
  refine h env σ Z H F _ o r (w.bind.mono (Pin.refl _ _) (Ext.refl o) ?_)
  intro d env1 k v Z1 H1 Fv F1 x1 rv r1 sm1
  have o1 : Ok Z1 H1 F1 := x1.ok.split
  refine hs env1 σ Z1 H1 F1 _ o1 r1 ((Wp.bind (k.mono (Pin.refl _ _) x1.right fun _ _ z => z)).mono (Pin.refl _ _) (Ext.refl o1) ?_)
  intro ds env2 k2 vs Z2 H2 Fvs F2 x2 rvs r2 sm2
  have y := x2.hold x1.ok
  refine k2 (v :: vs) Z2 H2 (Fv ++ Fvs) F2 ?_ ?_ r2 fun z => ?_
  · rw [List.append_assoc]; exact x1.trans y
  · rw [RdL]; exact ⟨v, vs, Fv, Fvs, rfl, rfl, x2.held (x1.ok.disj) rv, rvs⟩
  · rw [Bool.and_eq_true] at z; exact (sm1 z.1).trans (sm2 z.2)
theorem rta_nil : RefTA N true tNil lNil := fun env σ Z H F Q o r w => w [] Z H F (Ext.refl o) rfl r fun _ => Same.refl _
theorem rta_cons {s1 : Bool} {t : TE} {u : TA} {m : ME} {ms : ML} (h : RefT N s1 t m) (hs : RefTA N true u ms) : RefTA N s1 (tCons t u) (lCons m ms) := fun env σ Z H F Q o r w => by
  refine h env σ Z H F _ o r (w.bind.mono (Pin.refl _ _) (Ext.refl o) ?_)
  intro d env1 k v Z1 H1 Fv F1 x1 rv r1 sm1
  refine hs env1 σ Z1 H1 F1 _ x1.ok r1 ((Wp.bind (k.mono (Pin.refl _ _) x1 fun _ _ z => z)).mono (Pin.refl _ _) (Ext.refl x1.ok) ?_)
  intro ds env2 k2 vs Z2 H2 F2 x2 rvs r2 sm2
  exact k2 (v :: vs) Z2 H2 F2 (x1.trans x2) ⟨v, vs, Fv, rfl, rv.same x2.zz (sm2 rfl), rvs⟩ r2 fun z => (sm1 z).trans (sm2 rfl)
theorem RefA.toTA {st : Bool} {t : TA} {m : ML} (h : RefA N st t m) : RefTA N st t m := fun env σ Z H F Q o r w =>
  h env σ Z H F Q o r (w.mono (Pin.refl _ _) (Ext.refl o) fun d env' k v Z' H' Fv F' x rv re s => k v Z' H' F' x.right rv.toA re s)

/-! ### operators on values: they add to the heap, and change nothing -/
abbrev Post (C : Ct) (Z H : Hp) (F : List Addr) (d : D) (Q : VK) : Prop := ∀ v Z' H' Fv, Ext Z H F Z' H' (Fv ++ F) → RdV C Z' H' d v Fv → Same H H' → Q v H'
def Fn1 (C : Ct) (r : V → Hp → VK → Prop) (f : D → Option D) : Prop := ∀ d v Fd Z H F Q e, Ok Z H F → RdV C Z H d v Fd → f d = some e → Post C Z H F e Q → r v H Q
def Fn2 (C : Ct) (r : R2) (f : D → D → Option D) : Prop := ∀ d v Fd d' v' Fd' Z H F Q e, Ok Z H F → RdV C Z H d v Fd → RdV C Z H d' v' Fd' → f d d' = some e → Post C Z H F e Q → r v v' H Q
def FnL (C : Ct) (r : List V → Hp → VK → Prop) (f : List D → Option D) : Prop := ∀ ds vs Z H F Q e, Ok Z H F → RdA C Z H ds vs → f ds = some e → Post C Z H F e Q → r vs H Q
def lift (o : Option D) (env : Env) : R D := match o with | some d => .ok d env | none => .no
@[simp] theorem lift_some {d : D} {env : Env} : lift (some d) env = .ok d env := rfl
@[simp] theorem lift_none {env : Env} : lift none env = .no := rfl
def e1 (f : D → Option D) (m : ME) : ME := fun env => (m env).bind fun d e => lift (f d) e
/-- the second changes no owned thing -/
def e2 (f : D → D → Option D) (m n : ME) : ME := fun env => (m env).bind fun d e => (n e).bind fun d' e => lift (f d d') e
/-- the second may: the first must hold no owned node -/
def e2k (f : D → D → Option D) (m n : ME) : ME := e2 f (eK m) n
def eL (f : List D → Option D) (m : ML) : ME := fun env => (m env).bind fun ds e => lift (f ds) e
theorem post_end {st : Bool} {Q : VK} {d : D} {env : Env} {σ : L2.St} {Z0 H0 : Hp} {F0 : List Addr} {o : Option D} {Zx Hx : Hp} {Fx : List Addr} (x : Ext Z0 H0 F0 Z H F) (r : RdE N.C Z H env σ F) (sm : st = true → Same H0 H) (e : o = some d)
    (w : Wp N σ Zx Hx Fx (lift o env) (fun d env' => ∀ v Z' H' Fv F', Ext Z0 H0 F0 Z' H' (Fv ++ F') → RdV N.C Z' H' d v Fv → RdE N.C Z' H' env' σ F' → (st = true → Same H0 H') → Q v H')) : Post N.C Z H F d Q := by
  intro v Z' H' Fv y rv s
  rw [e] at w
  exact w v Z' H' Fv F (x.trans y) rv (r.same y.zz s) fun z => (sm z).trans s
theorem wp_lift {k : D → Env → Prop} {σ : L2.St} {o : Option D} {env : Env} (w : Wp N σ Z H F (lift o env) k) : ∃ d, o = some d := by
  cases o with
  | some d => exact ⟨d, rfl⟩
  | none => exact w.elim
theorem re_un {st : Bool} {r : V → Hp → VK → Prop} {f : D → Option D} {t : TE} {m : ME} (hf : Fn1 N.C r f) (h : RefT N st t m) : RefE N st (tUn r t) (e1 f m) := fun env σ Z H F Q o re w => by
  refine h env σ Z H F _ o re (w.bind.mono (Pin.refl _ _) (Ext.refl o) ?_)
  intro d env1 k v Z1 H1 Fd F1 x rd r1 sm
  obtain ⟨e, he⟩ := wp_lift k
  exact hf d v Fd Z1 H1 F1 Q e x.ok rd he (post_end x r1 sm he k)
theorem re_op {s1 : Bool} {r : R2} {f : D → D → Option D} {t u : TE} {m n : ME} (hf : Fn2 N.C r f) (h : RefT N s1 t m) (hu : RefT N true u n) : RefE N s1 (tOp r t u) (e2 f m n) := fun env σ Z H F Q o re w => by
  refine h env σ Z H F _ o re (w.bind.mono (Pin.refl _ _) (Ext.refl o) ?_)
  intro d env1 k v Z1 H1 Fd F1 x1 rd r1 sm1
  refine hu env1 σ Z1 H1 F1 _ x1.ok r1 ((Wp.bind (k.mono (Pin.refl _ _) x1 fun _ _ z => z)).mono (Pin.refl _ _) (Ext.refl x1.ok) ?_)
  intro d2 env2 k2 v2 Z2 H2 Fd2 F2 x2 rd2 r2 sm2
  obtain ⟨e, he⟩ := wp_lift k2
  exact hf d v Fd d2 v2 Fd2 Z2 H2 F2 Q e x2.ok (rd.same x2.zz (sm2 rfl)) rd2 he (post_end (x1.trans x2) r2 (fun z => (sm1 z).trans (sm2 rfl)) he k2)
theorem re_opk {s1 s2 : Bool} {r : R2} {f : D → D → Option D} {t u : TE} {m n : ME} (hf : Fn2 N.C r f) (h : RefE N s1 t m) (hu : RefT N s2 u n) : RefE N (s1 && s2) (tOp r t u) (e2 f m n) := fun env σ Z H F Q o re w => by
  refine h env σ Z H F _ o re (w.bind.mono (Pin.refl _ _) (Ext.refl o) ?_)
  intro d env1 k v Z1 H1 Fd F1 x1 rd r1 sm1
  have o1 := x1.ok.split
  refine hu env1 σ Z1 H1 F1 _ o1 r1 ((Wp.bind (k.mono (Pin.refl _ _) x1.right fun _ _ z => z)).mono (Pin.refl _ _) (Ext.refl o1) ?_)
  intro d2 env2 k2 v2 Z2 H2 Fd2 F2 x2 rd2 r2 sm2
  obtain ⟨e, he⟩ := wp_lift k2
  refine hf d v Fd d2 v2 Fd2 Z2 H2 F2 Q e x2.ok (x2.held x1.ok.disj rd) rd2 he (post_end (x1.right.trans x2) r2 (fun z => ?_) he k2)
  rw [Bool.and_eq_true] at z
  exact (sm1 z.1).trans (sm2 z.2)
theorem re_cb {st : Bool} {r : List V → Hp → VK → Prop} {f : List D → Option D} {t : TA} {m : ML} (hf : FnL N.C r f) (h : RefTA N st t m) : RefE N st (tCB r t) (eL f m) := fun env σ Z H F Q o re w => by
  refine h env σ Z H F _ o re (w.bind.mono (Pin.refl _ _) (Ext.refl o) ?_)
  intro d env1 k v Z1 H1 F1 x rd r1 sm
  obtain ⟨e, he⟩ := wp_lift k
  exact hf d v Z1 H1 F1 Q e x.ok rd he (post_end x r1 sm he k)
theorem post_val {d : D} {v : V} {Q : VK} (o : Ok Z H F) (p : Post C Z H F d Q) (h : RdV C Z H d v []) : Q v H := p v Z H [] (Ext.refl o) h (Same.refl _)

/-! ### truth, and, or, not, if -/
def bB (m : ME) : MB := fun env => (m env).bind fun d e => match d with | .bl b => .ok b e | _ => .no
def bAnd (m n : MB) : MB := fun env => (m env).bind fun b e => if b then n e else .ok false e
def bOr (m n : MB) : MB := fun env => (m env).bind fun b e => if b then .ok true e else n e
def bNot (m : MB) : MB := fun env => (m env).bind fun b e => .ok (!b) e
def eOfB (m : MB) : ME := fun env => (m env).bind fun b e => .ok (.bl b) e
def eIf (c : MB) (m n : ME) : ME := fun env => (c env).bind fun b e => if b then m e else n e
theorem rb_core {st : Bool} {t : TE} {m : ME} (h : RefT N st t m) : RefB N st (fun σ H Q => t σ H fun x H' => ∃ k, x = .bl k ∧ Q k H') (bB m) := fun env σ Z H F Q o re w => by
  refine h env σ Z H F _ o re (w.bind.mono (Pin.refl _ _) (Ext.refl o) ?_)
  intro d env1 k v Z1 H1 Fd F1 x rd r1 sm
  cases d with
  | bl b =>
    rw [RdV] at rd
    exact ⟨b, rd.1, k Z1 H1 F1 x r1 sm⟩
  | _ => exact k.elim
theorem rb_b {st : Bool} {t : TE} {m : ME} (h : RefT N st t m) : RefB N st (tB t) (bB m) := rb_core h
theorem rb_test {st : Bool} {t : TE} {m : ME} (h : RefT N st t m) : RefB N st (tTest t) (bB m) := rb_core h
theorem Wp.ite {b : Bool} {α : Type} {x y : R α} {σ : L2.St} {k : α → Env → Prop} (w : Wp N σ Z H F (if b then x else y) k) : if b = true then Wp N σ Z H F x k else Wp N σ Z H F y k := by
  cases b <;> exact w
theorem rb_and {s1 s2 : Bool} {t u : TT} {m n : MB} (h : RefB N s1 t m) (hu : RefB N s2 u n) : RefB N (s1 && s2) (tAnd t u) (bAnd m n) := fun env σ Z H F Q o re w => by
  refine h env σ Z H F _ o re (w.bind.mono (Pin.refl _ _) (Ext.refl o) ?_)
  intro b env1 k Z1 H1 F1 x r1 sm
  cases b with
  | true =>
    rw [if_pos rfl]
    refine hu env1 σ Z1 H1 F1 _ x.ok r1 (Wp.mono k (Pin.refl _ _) x fun b2 env2 k2 Z2 H2 F2 x2 r2 sm2 => k2 Z2 H2 F2 (x.trans x2) r2 fun z => ?_)
    rw [Bool.and_eq_true] at z
    exact (sm z.1).trans (sm2 z.2)
  | false =>
    rw [if_neg Bool.false_ne_true]
    exact k Z1 H1 F1 x r1 fun z => sm (Bool.and_eq_true _ _ ▸ z).1
theorem rb_or {s1 s2 : Bool} {t u : TT} {m n : MB} (h : RefB N s1 t m) (hu : RefB N s2 u n) : RefB N (s1 && s2) (tOr t u) (bOr m n) := fun env σ Z H F Q o re w => by
  refine h env σ Z H F _ o re (w.bind.mono (Pin.refl _ _) (Ext.refl o) ?_)
  intro b env1 k Z1 H1 F1 x r1 sm
  cases b with
  | false =>
    rw [if_neg Bool.false_ne_true]
    refine hu env1 σ Z1 H1 F1 _ x.ok r1 (Wp.mono k (Pin.refl _ _) x fun b2 env2 k2 Z2 H2 F2 x2 r2 sm2 => k2 Z2 H2 F2 (x.trans x2) r2 fun z => ?_)
    rw [Bool.and_eq_true] at z
    exact (sm z.1).trans (sm2 z.2)
  | true =>
    rw [if_pos rfl]
    exact k Z1 H1 F1 x r1 fun z => sm (Bool.and_eq_true _ _ ▸ z).1
theorem rb_not {s1 : Bool} {t : TT} {m : MB} (h : RefB N s1 t m) : RefB N s1 (tNot t) (bNot m) := fun env σ Z H F Q o re w => by
  refine h env σ Z H F _ o re (w.bind.mono (Pin.refl _ _) (Ext.refl o) ?_)
  intro b env1 k Z1 H1 F1 x r1 sm
  exact k Z1 H1 F1 x r1 sm
/-- and, or, not as values of bools -/
def eAnd (m n : ME) : ME := fun env => (m env).bind fun d e => match d with | .bl true => n e | .bl false => .ok (.bl false) e | _ => .no
def eOr (m n : ME) : ME := fun env => (m env).bind fun d e => match d with | .bl true => .ok (.bl true) e | .bl false => n e | _ => .no
def eNot (m : ME) : ME := fun env => (m env).bind fun d e => match d with | .bl b => .ok (.bl (!b)) e | _ => .no
theorem rd_bl {b : Bool} : RdV C Z H (.bl b) (.bl b) [] := ⟨rfl, rfl⟩
theorem rd_int {b : Int} : RdV C Z H (.int b) (.int b) [] := ⟨rfl, rfl⟩
theorem rd_str {b : Str} : RdV C Z H (.str b) (.str b) [] := ⟨rfl, rfl⟩
theorem rd_non : RdV C Z H .non .non [] := ⟨rfl, rfl⟩
theorem re_and {s1 s2 : Bool} {t u : TE} {m n : ME} (h : RefT N s1 t m) (hu : RefE N s2 u n) : RefE N (s1 && s2) (tAndV t u) (eAnd m n) := fun env σ Z H F Q o re w => by
  refine h env σ Z H F _ o re (w.bind.mono (Pin.refl _ _) (Ext.refl o) ?_)
  intro d env1 k v Z1 H1 Fd F1 x rd r1 sm
  cases d with
  | bl b =>
    rw [RdV] at rd
    refine ⟨b, rd.1, ?_⟩
    cases b with
    | true =>
      rw [if_pos rfl]
      refine hu env1 σ Z1 H1 F1 _ x.ok r1 (Wp.mono k (Pin.refl _ _) x fun b2 env2 k2 v2 Z2 H2 Fv F2 x2 rv2 r2 sm2 => k2 v2 Z2 H2 Fv F2 (x.trans x2) rv2 r2 fun z => ?_)
      rw [Bool.and_eq_true] at z
      exact (sm z.1).trans (sm2 z.2)
    | false =>
      rw [if_neg Bool.false_ne_true]
      exact k _ Z1 H1 [] F1 x rd_bl r1 fun z => sm (Bool.and_eq_true _ _ ▸ z).1
  | _ => exact k.elim
theorem re_or {s1 s2 : Bool} {t u : TE} {m n : ME} (h : RefT N s1 t m) (hu : RefE N s2 u n) : RefE N (s1 && s2) (tOrV t u) (eOr m n) := fun env σ Z H F Q o re w => by
  refine h env σ Z H F _ o re (w.bind.mono (Pin.refl _ _) (Ext.refl o) ?_)
  intro d env1 k v Z1 H1 Fd F1 x rd r1 sm
  cases d with
  | bl b =>
    rw [RdV] at rd
    refine ⟨b, rd.1, ?_⟩
    cases b with
    | false =>
      rw [if_neg Bool.false_ne_true]
      refine hu env1 σ Z1 H1 F1 _ x.ok r1 (Wp.mono k (Pin.refl _ _) x fun b2 env2 k2 v2 Z2 H2 Fv F2 x2 rv2 r2 sm2 => k2 v2 Z2 H2 Fv F2 (x.trans x2) rv2 r2 fun z => ?_)
      rw [Bool.and_eq_true] at z
      exact (sm z.1).trans (sm2 z.2)
    | true =>
      rw [if_pos rfl]
      exact k _ Z1 H1 [] F1 x rd_bl r1 fun z => sm (Bool.and_eq_true _ _ ▸ z).1
  | _ => exact k.elim
theorem re_not {s1 : Bool} {t : TE} {m : ME} (h : RefT N s1 t m) : RefE N s1 (tNotV t) (eNot m) := fun env σ Z H F Q o re w => by
  refine h env σ Z H F _ o re (w.bind.mono (Pin.refl _ _) (Ext.refl o) ?_)
  intro d env1 k v Z1 H1 Fd F1 x rd r1 sm
  cases d with
  | bl b =>
    rw [RdV] at rd
    exact ⟨b, rd.1, k _ Z1 H1 [] F1 x rd_bl r1 sm⟩
  | _ => exact k.elim
theorem re_if {s1 s2 s3 : Bool} {c : TT} {t u : TE} {b : MB} {m n : ME} (hc : RefB N s1 c b) (ht : RefE N s2 t m) (hu : RefE N s3 u n) : RefE N (s1 && s2 && s3) (tIf c t u) (eIf b m n) := fun env σ Z H F Q o re w => by
  refine hc env σ Z H F _ o re (w.bind.mono (Pin.refl _ _) (Ext.refl o) ?_)
  intro b env1 k Z1 H1 F1 x r1 sm
  cases b with
  | true =>
    rw [if_pos rfl]
    refine ht env1 σ Z1 H1 F1 _ x.ok r1 (Wp.mono k (Pin.refl _ _) x fun b2 env2 k2 v2 Z2 H2 Fv F2 x2 rv2 r2 sm2 => k2 v2 Z2 H2 Fv F2 (x.trans x2) rv2 r2 fun z => ?_)
    simp only [Bool.and_eq_true] at z
    exact (sm z.1.1).trans (sm2 z.1.2)
  | false =>
    rw [if_neg Bool.false_ne_true]
    refine hu env1 σ Z1 H1 F1 _ x.ok r1 (Wp.mono k (Pin.refl _ _) x fun b2 env2 k2 v2 Z2 H2 Fv F2 x2 rv2 r2 sm2 => k2 v2 Z2 H2 Fv F2 (x.trans x2) rv2 r2 fun z => ?_)
    simp only [Bool.and_eq_true] at z
    exact (sm z.1.1).trans (sm2 z.2)
/-! ### displays -/
def eTup (m : ML) : ME := fun env => (m env).bind fun ds e => if fznL ds && decide (ds.length ≤ sizeLine) then .ok (.tup ds) e else .no
def eLst (m : ML) : ME := fun env => (m env).bind fun ds e => if ds.length ≤ sizeLine then .ok (.lst true ds) e else .no
theorem RdL.length : ∀ {ds : List D} {vs : List V} {F : List Addr}, RdL C Z H ds vs F → ds.length = vs.length
  | [], _, _, h => by rw [RdL] at h; rw [h.1]; rfl
  | d :: ds, _, _, h => by
    rw [RdL] at h
    obtain ⟨v, r, F1, F2, rfl, _, _, h4⟩ := h
    simp [RdL.length h4]
theorem re_tup {st : Bool} {t : TA} {m : ML} (h : RefA N st t m) : RefE N st (tTup t) (eTup m) := fun env σ Z H F Q o re w => by
  refine h env σ Z H F _ o re (w.bind.mono (Pin.refl _ _) (Ext.refl o) ?_)
  intro ds env1 k vs Z1 H1 Fv F1 x rd r1 sm
  by_cases q : (fznL ds && decide (ds.length ≤ sizeLine)) = true
  · rw [if_pos q] at k
    rw [Bool.and_eq_true, decide_eq_true_eq] at q
    have := RdL.fznL ds vs Fv q.1 rd
    subst this
    refine ⟨by rw [← rd.length]; exact q.2, fun p hp => ?_⟩
    have y := Ext.newZ (o := .tup vs) x.right.ok hp
    refine k (.ref p) _ _ [] F1 (x.right.trans y) ?_ (r1.same y.zz (same_new hp)) fun z => (sm z).trans (same_new hp)
    rw [RdV]
    exact ⟨rfl, p, vs, rfl, sqT_of upd_same, rd.frozen y.zz _⟩
  · rw [if_neg q] at k
    exact k.elim
theorem re_lst {st : Bool} {t : TA} {m : ML} (h : RefA N st t m) : RefE N st (tLst t) (eLst m) := fun env σ Z H F Q o re w => by
  refine h env σ Z H F _ o re (w.bind.mono (Pin.refl _ _) (Ext.refl o) ?_)
  intro ds env1 k vs Z1 H1 Fv F1 x rd r1 sm
  by_cases q : ds.length ≤ sizeLine
  · rw [if_pos q] at k
    refine ⟨by rw [← rd.length]; exact q, fun p hp => ?_⟩
    have y := Ext.new (o := .lst vs) x.ok hp
    refine k (.ref p) _ _ (p :: Fv) F1 (x.trans y) ?_ (r1.same y.zz (same_new hp)) fun z => (sm z).trans (same_new hp)
    rw [RdV]
    exact ⟨p, vs, Fv, rfl, upd_same, rfl, rd.same y.zz (same_new hp)⟩
  · rw [if_neg q] at k
    exact k.elim
end
end Mi

set_option maxHeartbeats 4000000
namespace Mi
open PySem PySem.Spec PyProof.Rows L2 RZ Ov

/-! ### statements -/
def Aft (N : Cn) (σ : L2.St) (Z H : Hp) (F : List Addr) (D0 : Ends) (fl : Fl) (env : Env) : Prop :=
  match fl with
  | .nx => ∀ σ' Z' H' F', Pin N.pin σ σ' → Ext Z H F Z' H' F' → RdE N.C Z' H' env σ' F' → D0.nx σ' H'
  | .bk => ∀ σ' Z' H' F', Pin N.pin σ σ' → Ext Z H F Z' H' F' → RdE N.C Z' H' env σ' F' → D0.bk σ' H'
  | .ct => ∀ σ' Z' H' F', Pin N.pin σ σ' → Ext Z H F Z' H' F' → RdE N.C Z' H' env σ' F' → D0.ct σ' H'
  | .rt d => ∀ σ' v Z' H' Fv F', Pin N.pin σ σ' → Ext Z H F Z' H' (Fv ++ F') → RdV N.C Z' H' d v Fv → RdE N.C Z' H' env σ' F' → D0.rt v H'
def RefS (N : Cn) (t : TS) (m : MS) : Prop := ∀ env σ Z H F D0, Ok Z H F → RdE N.C Z H env σ F →
  Wp N σ Z H F (m env) (Aft N σ Z H F D0) → t D0 σ H

def sSeq (m n : MS) : MS := fun env => (m env).bind fun fl e => match fl with | .nx => n e | fl => .ok fl e
def sPass : MS := fun env => .ok .nx env
def sBk : MS := fun env => .ok .bk env
def sCt : MS := fun env => .ok .ct env
def sNo : MS := fun _ => .no
def sRet (m : ME) : MS := fun env => (m env).bind fun d e => .ok (.rt d) e
def sRetN : MS := fun env => .ok (.rt .non) env
def sExpr (m : ME) : MS := fun env => (m env).bind fun _ e => .ok .nx e
def sIf (c : MB) (m n : MS) : MS := fun env => (c env).bind fun b e => if b then m e else n e

section
variable {N : Cn} {C : Ct} {Z H Z' H' Z1 H1 : Hp} {F F' G Fv F1 : List Addr} {σ σ1 : L2.St}
theorem Aft.trans {D0 : Ends} {fl : Fl} {env : Env} (w : Aft N σ Z H F D0 fl env) (p : Pin N.pin σ σ1) (x : Ext Z H F Z1 H1 F1) : Aft N σ1 Z1 H1 F1 D0 fl env := by
  cases fl with
  | nx => exact fun σ' Z' H' F' p' x' r => w σ' Z' H' F' (p.trans p') (x.trans x') r
  | bk => exact fun σ' Z' H' F' p' x' r => w σ' Z' H' F' (p.trans p') (x.trans x') r
  | ct => exact fun σ' Z' H' F' p' x' r => w σ' Z' H' F' (p.trans p') (x.trans x') r
  | rt d => exact fun σ' v Z' H' Fv F' p' x' rv r => w σ' v Z' H' Fv F' (p.trans p') (x.trans x') rv r
theorem rs_seq {t u : TS} {m n : MS} (h : RefS N t m) (hu : RefS N u n) : RefS N (tSeq t u) (sSeq m n) := fun env σ Z H F D0 o r w => by
  refine h env σ Z H F _ o r (w.bind.mono (Pin.refl _ _) (Ext.refl o) ?_)
  intro fl env1 k
  cases fl with
  | nx => exact fun σ1 Z1 H1 F1 p x r1 => hu env1 σ1 Z1 H1 F1 D0 x.ok r1 (k.mono p x fun fl env2 k2 => k2.trans p x)
  | bk => exact k
  | ct => exact k
  | rt d => exact k
theorem rs_pass : RefS N tNext sPass := fun env σ Z H F D0 o r w => w σ Z H F (Pin.refl _ _) (Ext.refl o) r
theorem rs_bk : RefS N tBreak sBk := fun env σ Z H F D0 o r w => w σ Z H F (Pin.refl _ _) (Ext.refl o) r
theorem rs_ct : RefS N tCont sCt := fun env σ Z H F D0 o r w => w σ Z H F (Pin.refl _ _) (Ext.refl o) r
theorem rs_never {t : TS} : RefS N t sNo := fun env σ Z H F D0 o r w => w.elim
theorem rs_ret {st : Bool} {t : TE} {m : ME} (h : RefE N st t m) : RefS N (tRet t) (sRet m) := fun env σ Z H F D0 o r w => by
  refine h env σ Z H F _ o r (w.bind.mono (Pin.refl _ _) (Ext.refl o) ?_)
  intro d env1 k v Z1 H1 Fv F1 x rv r1 _
  exact k σ v Z1 H1 Fv F1 (Pin.refl _ _) x rv r1
theorem rs_retN : RefS N tRetN sRetN := fun env σ Z H F D0 o r w => w σ .non Z H [] F (Pin.refl _ _) (Ext.refl o) rd_non r
theorem rs_expr {st : Bool} {t : TE} {m : ME} (h : RefT N st t m) : RefS N (tDrop t) (sExpr m) := fun env σ Z H F D0 o r w => by
  refine h env σ Z H F _ o r (w.bind.mono (Pin.refl _ _) (Ext.refl o) ?_)
  intro d env1 k v Z1 H1 Fv F1 x rv r1 _
  exact k σ Z1 H1 F1 (Pin.refl _ _) x r1
theorem rs_if {st : Bool} {c : TT} {t u : TS} {b : MB} {m n : MS} (hc : RefB N st c b) (h : RefS N t m) (hu : RefS N u n) : RefS N (tIfS c t u) (sIf b m n) := fun env σ Z H F D0 o r w => by
  refine hc env σ Z H F _ o r (w.bind.mono (Pin.refl _ _) (Ext.refl o) ?_)
  intro b env1 k Z1 H1 F1 x r1 _
  cases b with
  | true =>
    rw [if_pos rfl]
    exact h env1 σ Z1 H1 F1 D0 x.ok r1 (Wp.mono k (Pin.refl _ _) x fun fl e k => k.trans (Pin.refl _ _) x)
  | false =>
    rw [if_neg Bool.false_ne_true]
    exact hu env1 σ Z1 H1 F1 D0 x.ok r1 (Wp.mono k (Pin.refl _ _) x fun fl e k => k.trans (Pin.refl _ _) x)

/-! ### targets -/
abbrev MG := D → Env → Option Env
def gN (i : Nat) : MG := fun d env => some (env.set i (some d))
def RefG (N : Cn) (ws : List Nat) (g : TG) (m : MG) : Prop := ∀ env σ Z H F Fv d v Q env', Ok Z H (Fv ++ F) → RdE N.C Z H env σ F → RdV N.C Z H d v Fv → m d env = some env' →
  (∀ σ' F', F'.Nodup → (∀ a ∈ F', a ∈ Fv ++ F) → (σ'.length = σ.length ∧ ∀ i, i ∉ ws → σ'[i]? = σ[i]?) → RdE N.C Z H env' σ' F' → Q σ' H) → g v σ H Q
theorem rd_set {env : Env} {d : D} {v : V} {i : Nat} (o : Ok Z H (Fv ++ F)) (r : RdE C Z H env σ F) (rv : RdV C Z H d v Fv) : ∃ F', F'.Nodup ∧ (∀ a ∈ F', a ∈ Fv ++ F) ∧ RdE C Z H (env.set i (some d)) (σ.set i (some v)) F' := by
  by_cases hi : i < env.length
  · obtain ⟨F2, h1, h2⟩ := r.drop i
    obtain ⟨F3, h3, h4⟩ := RdE.put h2 hi rv
    refine ⟨F3, ?_, ?_, h4⟩
    · refine h3.nodup_iff.mpr (List.nodup_append.mpr ⟨nodup_left o.nd, h1.nodup (nodup_right o.nd), ?_⟩)
      intro a ha b hb e
      subst e
      exact o.disj a ha (h1.mem hb)
    · intro a ha
      rcases List.mem_append.mp (h3.mem_iff.mp ha) with z | z
      · exact List.mem_append_left _ z
      · exact List.mem_append_right _ (h1.mem z)
  · rw [List.set_eq_of_length_le (by omega), List.set_eq_of_length_le (by rw [← r.length]; omega)]
    exact ⟨F, nodup_right o.nd, fun a ha => List.mem_append_right _ ha, r⟩
theorem rg_n {i : Nat} : RefG N [i] (gName i) (gN i) := fun env σ Z H F Fv d v Q env' o r rv e k => by
  obtain rfl : env.set i (some d) = env' := Option.some.inj e
  obtain ⟨F', h1, h2, h3⟩ := rd_set (i := i) o r rv
  refine k _ F' h1 h2 ⟨List.length_set .., fun j hj => ?_⟩ h3
  rw [List.getElem?_set_ne (by simpa [eq_comm] using hj)]
abbrev MGs := List D → Env → Option Env
def gsNil : MGs := fun ds env => match ds with | [] => some env | _ => none
def gsCons (g : MG) (gs : MGs) : MGs := fun ds env => match ds with | d :: r => (g d env).bind (gs r) | [] => none
def gT (gs : MGs) : MG := fun d env => match d with | .tup ds => gs ds env | _ => none
structure RefGs (N : Cn) (ws : List Nat) (n : Nat) (g : TGs) (m : MGs) : Prop where
  len : ∀ ds env env', m ds env = some env' → ds.length = n
  run : ∀ env σ Z H F ds vs Q env', Ok Z H F → RdE N.C Z H env σ F → RdL N.C Z H ds vs [] → m ds env = some env' →
    (∀ σ' F', F'.Nodup → (∀ a ∈ F', a ∈ F) → (σ'.length = σ.length ∧ ∀ i, i ∉ ws → σ'[i]? = σ[i]?) → RdE N.C Z H env' σ' F' → Q σ' H) → g vs σ H Q
theorem rgs_nil : RefGs N [] 0 gNil gsNil := by
  refine ⟨fun ds env env' e => ?_, fun env σ Z H F ds vs Q env' o r rv e k => ?_⟩
  · cases ds with
    | nil => rfl
    | cons => cases e
  · cases ds with
    | nil =>
      rw [RdL] at rv
      obtain rfl : env = env' := Option.some.inj e
      rw [rv.1]
      exact ⟨rfl, k σ F o.nd (fun a ha => ha) ⟨rfl, fun _ _ => rfl⟩ r⟩
    | cons => cases e
theorem rgs_cons {ws ws2 : List Nat} {n : Nat} {g : TG} {gs : TGs} {m : MG} {ms : MGs} (h : RefG N ws g m) (hs : RefGs N ws2 n gs ms) : RefGs N (ws ++ ws2) (n + 1) (gCons g gs) (gsCons m ms) := by
  refine ⟨fun ds env env' e => ?_, fun env σ Z H F ds vs Q env' o r rv e k => ?_⟩
  · cases ds with
    | nil => cases e
    | cons d ds =>
      have e : ((m d env).bind (ms ds)) = some env' := e
      cases q : m d env with
      | none => rw [q] at e; cases e
      | some env1 =>
        rw [q] at e
        rw [List.length_cons, hs.len ds env1 env' e]
  · cases ds with
    | nil => cases e
    | cons d ds =>
      rw [RdL] at rv
      obtain ⟨v, vr, F1, F2, rfl, hF, rv1, rv2⟩ := rv
      obtain ⟨rfl, rfl⟩ : F1 = [] ∧ F2 = [] := by
        have := hF.symm
        simpa using this
      have e : ((m d env).bind (ms ds)) = some env' := e
      cases q : m d env with
      | none => rw [q] at e; cases e
      | some env1 =>
        rw [q] at e
        have e : ms ds env1 = some env' := e
        refine ⟨v, vr, rfl, h env σ Z H F [] d v _ env1 (by simpa using o) r rv1 q fun σ1 F1 h1 h2 h3 h4 => ?_⟩
        have o1 : Ok Z H F1 := o.sub h1 (by simpa using h2)
        refine hs.run env1 σ1 Z H F1 ds vr Q env' o1 h4 rv2 e fun σ2 F2 g1 g2 g3 g4 => k σ2 F2 g1 (fun a ha => by simpa using h2 a (g2 a ha)) ⟨g3.1.trans h3.1, fun i hi => ?_⟩ g4
        rw [List.mem_append, not_or] at hi
        rw [g3.2 i hi.2, h3.2 i hi.1]
theorem rg_t {ws : List Nat} {n : Nat} {gs : TGs} {ms : MGs} (h : RefGs N ws n gs ms) : RefG N ws (gTup N.C.K n gs) (gT ms) := fun env σ Z H F Fv d v Q env' o r rv e k => by
  cases d with
  | tup ds =>
    rw [RdV] at rv
    obtain ⟨rfl, a, vs, rfl, h1, h2⟩ := rv
    have o1 : Ok Z H F := by simpa using o
    refine ⟨a, vs, rfl, Same.seqT o1.zh h1, by rw [← h2.length]; exact h.len ds env env' e, ?_⟩
    exact h.run env σ Z H F ds vs Q env' o1 r h2 e fun σ' F' g1 g2 g3 g4 => k σ' F' g1 (fun a ha => by simpa using g2 a ha) g3 g4
  | _ => cases e
def gOk (ws pin : List Nat) : Bool := pin.all fun i => !ws.contains i
def sAsg (g : MG) (m : ME) : MS := fun env => (m env).bind fun d e => match g d e with | some e' => .ok .nx e' | none => .no
theorem rs_asg {st : Bool} {ws : List Nat} {t : TE} {g : TG} {m : ME} {mg : MG} (h : RefE N st t m) (hg : RefG N ws g mg) (hp : gOk ws N.pin = true) : RefS N (tAsg t g) (sAsg mg m) := fun env σ Z H F D0 o r w => by
  refine h env σ Z H F _ o r (w.bind.mono (Pin.refl _ _) (Ext.refl o) ?_)
  intro d env1 k v Z1 H1 Fv F1 x rv r1 _
  cases q : mg d env1 with
  | none => rw [q] at k; exact k.elim
  | some env2 =>
    rw [q] at k
    refine hg env1 σ Z1 H1 F1 Fv d v _ env2 x.ok r1 rv q fun σ2 F2 h1 h2 h3 h4 => ?_
    refine k σ2 Z1 H1 F2 ⟨h3.1, fun i hi => h3.2 i fun z => ?_⟩ (x.sub h1 h2) h4
    have := List.all_eq_true.mp hp i hi
    simp [z] at this
def sPar (i j : Nat) (m : ML) : MS := fun env => (m env).bind fun ds e => match ds with | [d1, d2] => .ok .nx ((e.set i (some d1)).set j (some d2)) | _ => .no
theorem rs_par {st : Bool} {i j : Nat} {t : TA} {m : ML} (h : RefA N st t m) (hp : gOk [i, j] N.pin = true) : RefS N (tPar i j t) (sPar i j m) := fun env σ Z H F D0 o r w => by
  refine h env σ Z H F _ o r (w.bind.mono (Pin.refl _ _) (Ext.refl o) ?_)
  intro ds env1 k vs Z1 H1 Fv F1 x rv r1 _
  match ds, rv, k with
  | [], _, k => exact k.elim
  | [_], _, k => exact k.elim
  | _ :: _ :: _ :: _, _, k => exact k.elim
  | [d1, d2], rv, k =>
    rw [RdL, ] at rv
    obtain ⟨v1, r1', G1, G2, rfl, rfl, rv1, rv2⟩ := rv
    rw [RdL] at rv2
    obtain ⟨v2, r2', G3, G4, rfl, rfl, rv2, rv3⟩ := rv2
    rw [RdL] at rv3
    obtain ⟨rfl, rfl⟩ := rv3
    refine ⟨v1, v2, rfl, ?_⟩
    have o1 := x.ok
    simp only [List.append_nil, List.append_assoc] at o1
    have oA : Ok Z1 H1 (G1 ++ F1) := o1.sub (by
      refine List.nodup_append.mpr ⟨nodup_left o1.nd, nodup_right (nodup_right o1.nd), fun a ha b hb e => ?_⟩
      subst e
      exact o1.disj a ha (List.mem_append_right _ hb)) (fun a ha => by
      rcases List.mem_append.mp ha with z | z
      · exact List.mem_append_left _ z
      · exact List.mem_append_right _ (List.mem_append_right _ z))
    obtain ⟨F2, h1, h2, h3⟩ := rd_set (i := i) oA r1 rv1
    have oB : Ok Z1 H1 (G3 ++ F2) := o1.sub (by
      refine List.nodup_append.mpr ⟨nodup_left (nodup_right o1.nd), h1, fun a ha b hb e => ?_⟩
      subst e
      rcases List.mem_append.mp (h2 a hb) with z | z
      · exact o1.disj a z (List.mem_append_left _ ha)
      · exact o1.split.disj a ha z) (fun a ha => by
      rcases List.mem_append.mp ha with z | z
      · exact List.mem_append_right _ (List.mem_append_left _ z)
      · rcases List.mem_append.mp (h2 a z) with z | z
        · exact List.mem_append_left _ z
        · exact List.mem_append_right _ (List.mem_append_right _ z))
    obtain ⟨F3, g1, g2, g3⟩ := rd_set (i := j) oB h3 rv2
    refine k _ Z1 H1 F3 ⟨by rw [List.length_set, List.length_set], fun l hl => ?_⟩ (x.sub g1 fun a ha => ?_) g3
    · have := List.all_eq_true.mp hp l hl
      simp only [List.contains_cons, List.contains_nil, Bool.or_false, Bool.not_eq_true', Bool.or_eq_false_iff, beq_eq_false_iff_ne] at this
      rw [List.getElem?_set_ne (Ne.symm this.2), List.getElem?_set_ne (Ne.symm this.1)]
    · simp only [List.append_nil, List.append_assoc]
      rcases List.mem_append.mp (g2 a ha) with z | z
      · exact List.mem_append_right _ (List.mem_append_left _ z)
      · rcases List.mem_append.mp (h2 a z) with z | z
        · exact List.mem_append_left _ z
        · exact List.mem_append_right _ (List.mem_append_right _ z)
/-- x op= e, on flat values -/
def sAug (i : Nat) (f : D → D → Option D) (m : ME) : MS := fun env => match env[i]? with
  | some (some d) => (m env).bind fun d' e => match f d d' with | some r => .ok .nx (e.set i (some r)) | none => .no
  | _ => .no
theorem rs_aug {st : Bool} {i : Nat} {f : D → D → Option D} {t : TE} {ti : TIp} {m : ME} (h : RefE N st t m) (hf : ∀ d v d' v' H Z Fd Fd' Q e, RdV N.C Z H d v Fd → RdV N.C Z H d' v' Fd' → f d d' = some e → (∀ u, (∀ Z H, RdV N.C Z H e u []) → Q u H) → ti v v' H Q)
    (hz : ∀ d d' e, f d d' = some e → fzn d = true) (hp : gOk [i] N.pin = true) : RefS N (tAug i t ti) (sAug i f m) := fun env σ Z H F D0 o r w => by
  unfold sAug at w
  split at w
  · rename_i d e
    obtain ⟨v, G1, G2, h1, h2, h3, h4⟩ := r.take e
    refine ⟨v, h1, h env σ Z H F _ o r (w.bind.mono (Pin.refl _ _) (Ext.refl o) ?_)⟩
    intro d' env1 k v' Z1 H1 Fv F1 x rv r1 _
    cases q : f d d' with
    | none => rw [q] at k; exact k.elim
    | some e =>
      rw [q] at k
      have := RdV.fzn d v G1 (hz d d' e q) h2
      subst this
      refine hf d v d' v' H1 Z1 [] Fv _ e (h2.frozen x.zz _) rv q fun u ru => ?_
      obtain ⟨F2, g1, g2, g3⟩ := rd_set (i := i) (Fv := []) (by simpa using x.ok.split) r1 (ru Z1 H1)
      refine k _ Z1 H1 F2 ⟨List.length_set .., fun l hl => ?_⟩ (x.right.sub g1 fun a ha => by simpa using g2 a ha) g3
      have := List.all_eq_true.mp hp l hl
      simp only [List.contains_cons, List.contains_nil, Bool.or_false, Bool.not_eq_true', beq_eq_false_iff_ne] at this
      rw [List.getElem?_set_ne (Ne.symm this)]
  · exact w.elim

/-! ### while -/
def whileF (c : MB) (m : MS) : Nat → Env → R Fl
  | 0, _ => .no
  | n + 1, env => (c env).bind fun b e => if b then (m e).bind fun fl e => match fl with
      | .nx => whileF c m n e
      | .ct => whileF c m n e
      | .bk => .ok .nx e
      | .rt d => .ok (.rt d) e
    else .ok .nx e
open Classical in
noncomputable def sWhile (c : MB) (m : MS) : MS := fun env => if h : ∃ n, whileF c m n env ≠ .no then whileF c m h.choose env else .no
theorem rs_while {st : Bool} {c : TT} {t : TS} {b : MB} {m : MS} (hc : RefB N st c b) (h : RefS N t m) : RefS N (tWhile c t) (sWhile b m) := fun env σ Z H F D0 o r w => by
  unfold sWhile at w
  split at w
  · rename_i hn
    generalize hn.choose = n at w
    refine ⟨fun k σ1 H1 => ∃ env1 Z1 F1, Pin N.pin σ σ1 ∧ Ext Z H F Z1 H1 F1 ∧ RdE N.C Z1 H1 env1 σ1 F1 ∧ Wp N σ1 Z1 H1 F1 (whileF b m k env1) (Aft N σ1 Z1 H1 F1 D0),
      ⟨n, env, Z, F, Pin.refl _ _, Ext.refl o, r, w⟩, ?_⟩
    rintro k σ1 H1 ⟨env1, Z1, F1, p1, x1, r1, w1⟩
    cases k with
    | zero => exact w1.elim
    | succ k =>
      refine hc env1 σ1 Z1 H1 F1 _ x1.ok r1 ((Wp.bind w1).mono (Pin.refl _ _) (Ext.refl x1.ok) ?_)
      intro bb env2 k2 Z2 H2 F2 x2 r2 _
      cases bb with
      | false =>
        rw [if_neg Bool.false_ne_true]
        exact k2 σ1 Z2 H2 F2 (Pin.refl _ _) x2 r2
      | true =>
        rw [if_pos rfl]
        refine ⟨fun σ' H' => ∃ env1 Z1 F1, Pin N.pin σ σ' ∧ Ext Z H F Z1 H' F1 ∧ RdE N.C Z1 H' env1 σ' F1 ∧ Wp N σ' Z1 H' F1 (whileF b m k env1) (Aft N σ' Z1 H' F1 D0), fun σ' H' hh => ⟨k, Nat.lt_succ_self k, hh⟩, ?_⟩
        have k3 := Wp.mono (Wp.bind k2) (Pin.refl _ _) x2 (fun _ _ z => z)
        refine h env2 σ1 Z2 H2 F2 _ x2.ok r2 (k3.mono (Pin.refl _ _) (Ext.refl x2.ok) ?_)
        intro fl env3 k4
        cases fl with
        | nx =>
          intro σ3 Z3 H3 F3 p3 x3 r3
          exact ⟨env3, Z3, F3, p1.trans p3, (x1.trans x2).trans x3, r3, Wp.mono k4 p3 (x2.trans x3) fun fl e z => z.trans p3 (x2.trans x3)⟩
        | ct =>
          intro σ3 Z3 H3 F3 p3 x3 r3
          exact ⟨env3, Z3, F3, p1.trans p3, (x1.trans x2).trans x3, r3, Wp.mono k4 p3 (x2.trans x3) fun fl e z => z.trans p3 (x2.trans x3)⟩
        | bk =>
          intro σ3 Z3 H3 F3 p3 x3 r3
          exact k4 σ3 Z3 H3 F3 p3 (x2.trans x3) r3
        | rt d =>
          intro σ3 v Z3 H3 Fv F3 p3 x3 rv r3
          exact k4 σ3 v Z3 H3 Fv F3 p3 (x2.trans x3) rv r3
  · exact w.elim

/-! ### what is walked -/
/-- what comes at turn i -/
def YD (C : Ct) (Z : Hp) (ds : List D) (i : Nat) (H : Hp) (x : V) (H' : Hp) : Prop := ∃ d, ds[i]? = some d ∧
  ((H' = H ∧ RdV C Z H d x []) ∨ ∃ T us dd, x = .ref T ∧ H T = none ∧ H' = upd H T (.tup us) ∧ d = .tup dd ∧ RdL C Z H dd us [])
abbrev MI := Env → R (List D)
def RefI (N : Cn) (wi : TI) (m : MI) : Prop := ∀ env σ Z H F (Rr : It → Hp → Prop), Ok Z H F → RdE N.C Z H env σ F →
  Wp N σ Z H F (m env) (fun ds env' => ∀ J Z' H' F', Ext Z H F Z' H' F' → RdE N.C Z' H' env' σ F' → Walk J ds.length (fun H => Same Z' H) (YD N.C Z' ds) → Rr J H') → wi σ H Rr
/-- from the start again with things that stay -/
theorem YD.state {ds : List D} {i : Nat} {x : V} {env : Env} (y : YD C Z ds i H1 x H') (sz : Same Z Z1) (o : Ok Z1 H1 F) (r : RdE C Z1 H1 env σ F) :
    ∃ d Z2, ds[i]? = some d ∧ Ext Z1 H1 F Z2 H' F ∧ RdV C Z2 H' d x [] ∧ RdE C Z2 H' env σ F ∧ Same H1 H' := by
  obtain ⟨d, e, h | ⟨T, us, dd, rfl, hT, rfl, rfl, h⟩⟩ := y
  · obtain ⟨rfl, h⟩ := h
    exact ⟨d, Z1, e, Ext.refl o, h.frozen sz _, r, Same.refl _⟩
  · have x := Ext.newZ (o := .tup us) o hT
    refine ⟨_, _, e, x, ?_, r.same x.zz (same_new hT), same_new hT⟩
    rw [RdV]
    exact ⟨rfl, T, us, rfl, sqT_of upd_same, h.frozen (sz.trans x.zz) _⟩
def forL (g : MG) (m : MS) : List D → Env → R Fl
  | [], env => .ok .nx env
  | d :: ds, env => match g d env with
    | none => .no
    | some e => (m e).bind fun fl e => match fl with
      | .nx => forL g m ds e
      | .ct => forL g m ds e
      | .bk => .ok .nx e
      | .rt d => .ok (.rt d) e
def sFor (it : MI) (g : MG) (m : MS) : MS := fun env => (it env).bind fun ds e => forL g m ds e
theorem rs_for {ws : List Nat} {wi : TI} {it : MI} {g : TG} {mg : MG} {t : TS} {m : MS} (hi : RefI N wi it) (hg : RefG N ws g mg) (h : RefS N t m) (hp : gOk ws N.pin = true) : RefS N (tFor wi g t) (sFor it mg m) := fun env σ Z H F D0 o r w => by
  refine hi env σ Z H F _ o r (w.bind.mono (Pin.refl _ _) (Ext.refl o) ?_)
  intro ds env1 k J Z1 H1 F1 x1 r1 wk
  refine for_it wk (fun i σ2 H2 => ∃ env2 Z2 F2, Pin N.pin σ σ2 ∧ Ext Z1 H1 F1 Z2 H2 F2 ∧ RdE N.C Z2 H2 env2 σ2 F2 ∧ Wp N σ2 Z2 H2 F2 (forL mg m (ds.drop i) env2) (Aft N σ2 Z2 H2 F2 D0)) ?_ ?_ ?_ ?_
  · exact ⟨env1, Z1, F1, Pin.refl _ _, Ext.refl x1.ok, r1, Wp.mono k (Pin.refl _ _) x1 fun fl e z => z.trans (Pin.refl _ _) x1⟩
  · rintro i σ2 H2 _ ⟨env2, Z2, F2, p2, x2, r2, _⟩
    exact x2.zz.trans x2.ok.zh
  · rintro i xv σ2 H2 H3 hi ⟨env2, Z2, F2, p2, x2, r2, w2⟩ y
    obtain ⟨d, Z3, ed, x3, rv, r3, _⟩ := y.state x2.zz x2.ok r2
    have hl : i < ds.length := hi
    have e2 : ds.drop i = d :: ds.drop (i + 1) := by
      rw [List.drop_eq_getElem_cons hl]
      congr 1
      rw [List.getElem?_eq_getElem hl] at ed
      exact Option.some.inj ed
    rw [e2, forL] at w2
    cases q : mg d env2 with
    | none => rw [q] at w2; exact w2.elim
    | some env3 =>
      rw [q] at w2
      refine hg env2 σ2 Z3 H3 F2 [] d xv _ env3 (by simpa using x3.ok) r3 rv q fun σ4 F4 h1 h2 h3 h4 => ?_
      have p4 : Pin N.pin σ2 σ4 := ⟨h3.1, fun l hl => h3.2 l fun z => by
        have := List.all_eq_true.mp hp l hl
        simp [z] at this⟩
      have x4 : Ext Z2 H2 F2 Z3 H3 F4 := x3.sub h1 fun a ha => by simpa using h2 a ha
      refine h env3 σ4 Z3 H3 F4 _ x4.ok h4 ((Wp.mono (Wp.bind w2) p4 x4 fun _ _ z => z).mono (Pin.refl _ _) (Ext.refl x4.ok) ?_)
      intro fl env5 k5
      cases fl with
      | nx =>
        intro σ5 Z5 H5 F5 p5 x5 r5
        exact ⟨env5, Z5, F5, (p2.trans p4).trans p5, (x2.trans x4).trans x5, r5, Wp.mono k5 (p4.trans p5) (x4.trans x5) fun fl e z => z.trans (p4.trans p5) (x4.trans x5)⟩
      | ct =>
        intro σ5 Z5 H5 F5 p5 x5 r5
        exact ⟨env5, Z5, F5, (p2.trans p4).trans p5, (x2.trans x4).trans x5, r5, Wp.mono k5 (p4.trans p5) (x4.trans x5) fun fl e z => z.trans (p4.trans p5) (x4.trans x5)⟩
      | bk =>
        intro σ5 Z5 H5 F5 p5 x5 r5
        exact k5 σ5 Z5 H5 F5 (p4.trans p5) (x4.trans x5) r5
      | rt d =>
        intro σ5 v Z5 H5 Fv F5 p5 x5 rv r5
        exact k5 σ5 v Z5 H5 Fv F5 (p4.trans p5) (x4.trans x5) rv r5
  · rintro σ2 H2 ⟨env2, Z2, F2, p2, x2, r2, w2⟩
    rw [List.drop_length] at w2
    exact w2 σ2 Z2 H2 F2 (Pin.refl _ _) (Ext.refl x2.ok) r2
end
end Mi

set_option maxHeartbeats 4000000
namespace Mi
open PySem PySem.Spec PyProof.Rows L2 RZ Ov

section
variable {N : Cn} {C : Ct} {Z H Z' H' Z1 H1 : Hp} {F F' G Fv F1 : List Addr} {σ σ1 : L2.St}
/-! ### what is walked -/
theorem RdL.get : ∀ {ds : List D} {vs : List V} {i : Nat}, RdL C Z H ds vs [] → i < ds.length → ∃ d v, ds[i]? = some d ∧ vs[i]? = some v ∧ RdV C Z H d v []
  | [], _, i, _, h => by simp at h
  | d :: ds, _, i, h, hi => by
    rw [RdL] at h
    obtain ⟨v, r, F1, F2, rfl, hF, h3, h4⟩ := h
    obtain ⟨rfl, rfl⟩ : F1 = [] ∧ F2 = [] := by simpa using hF.symm
    cases i with
    | zero => exact ⟨d, v, rfl, rfl, h3⟩
    | succ i =>
      obtain ⟨d', v', e1, e2, e3⟩ := RdL.get (i := i) h4 (by simpa using hi)
      exact ⟨d', v', by simpa using e1, by simpa using e2, e3⟩
/-- a list or tuple, by its items -/
def seqD : D → Option (List D)
  | .tup ds => some ds
  | .lst _ ds => some ds
  | .scr ds => some ds
  | _ => none
def iSeq (m : ME) : MI := fun env => (m env).bind fun d e => match seqD (fz d) with | some ds => .ok ds e | none => .no
/-- for x in a list or a tuple -/
def iSeqT (K : PySem.W.Frag) (tl : TE) : TI := fun σ H R => iList K tl σ H R ∨ iTup K tl σ H R
def iSeqU (K : PySem.W.Frag) (tl : TE) : TI := fun σ H R => tl σ H fun x H1 => ∃ a, x = .ref a ∧ (((∃ xs, SqL K H1 a xs) ∧ R (Itl K a) H1) ∨ ((∃ xs, SqT K H1 a xs) ∧ R (Itt K a) H1))
theorem RefE.freeze {st : Bool} {t : TE} {m : ME} (h : RefE N st t m) : ∀ env σ Z H F Q, Ok Z H F → RdE N.C Z H env σ F →
  Wp N σ Z H F (m env) (fun d env' => ∀ v Z' H' F', Ext Z H F Z' H' F' → RdV N.C Z' H' (fz d) v [] → RdE N.C Z' H' env' σ F' → (st = true → Same H H') → Q v H') → t σ H Q := fun env σ Z H F Q o r w => by
  refine h env σ Z H F _ o r (w.mono (Pin.refl _ _) (Ext.refl o) ?_)
  intro d env1 k v Z1 H1 Fv F1 x rv r1 s1
  have y := Ext.freeze x.ok
  exact k v _ H1 F1 (x.trans y) (RdV.freeze (fun a ha => x.ok.zf a (List.mem_append_left _ ha)) d v Fv (fun a ha => ha) rv) (r1.same y.zz (Same.refl _)) s1
theorem walk_L {ds : List D} {vs : List V} {a : Addr} (h : SqL C.K Z a vs) (r : RdL C Z H ds vs []) : Walk (Itl C.K a) ds.length (fun H => Same Z H) (YD C Z ds) := by
  have w := walk_list (K := C.K) (a := a) (xs := vs)
  rw [← r.length] at w
  refine w.mono (fun H s => s.seq h) ?_
  rintro i H2 x H3 hi _ ⟨rfl, e⟩
  obtain ⟨d, v, e1, e2, e3⟩ := r.get hi
  rw [e] at e2
  cases e2
  exact ⟨d, e1, .inl ⟨rfl, e3.frozen (Same.refl _) _⟩⟩
theorem walk_T {ds : List D} {vs : List V} {a : Addr} (h : SqT C.K Z a vs) (r : RdL C Z H ds vs []) : Walk (Itt C.K a) ds.length (fun H => Same Z H) (YD C Z ds) := by
  have w := walk_tup (K := C.K) (a := a) (xs := vs)
  rw [← r.length] at w
  refine w.mono (fun H s => Same.seqT s h) ?_
  rintro i H2 x H3 hi _ ⟨rfl, e⟩
  obtain ⟨d, v, e1, e2, e3⟩ := r.get hi
  rw [e] at e2
  cases e2
  exact ⟨d, e1, .inl ⟨rfl, e3.frozen (Same.refl _) _⟩⟩
theorem ri_seq {st : Bool} {t : TE} {m : ME} (h : RefE N st t m) : RefI N (iSeqU N.C.K t) (iSeq m) := fun env σ Z H F Rr o r w => by
  refine h.freeze env σ Z H F _ o r (w.bind.mono (Pin.refl _ _) (Ext.refl o) ?_)
  intro d env1 k v Z1 H1 F1 x rv r1 _
  cases e : fz d with
  | tup ds =>
    rw [e] at rv k
    rw [RdV] at rv
    obtain ⟨_, a, vs, rfl, h1, h2⟩ := rv
    exact ⟨a, rfl, .inr ⟨⟨vs, Same.seqT x.ok.zh h1⟩, k _ Z1 H1 F1 x r1 (walk_T h1 h2)⟩⟩
  | lst o2 ds =>
    cases o2 with
    | false =>
      rw [e] at rv k
      rw [RdV] at rv
      obtain ⟨_, a, vs, rfl, h1, h2⟩ := rv
      exact ⟨a, rfl, .inl ⟨⟨vs, sqL_of (x.ok.zh _ _ h1)⟩, k _ Z1 H1 F1 x r1 (walk_L (sqL_of h1) h2)⟩⟩
    | true => exfalso; cases d <;> simp [fz] at e
  | scr ds =>
    rw [e] at rv k
    rw [RdV] at rv
    obtain ⟨_, a, vs, rfl, h1, h2⟩ := rv
    exact ⟨a, rfl, .inl ⟨⟨vs, x.ok.zh.seq h1⟩, k _ Z1 H1 F1 x r1 (walk_L h1 h2)⟩⟩
  | _ => rw [e] at k; exact k.elim
/-- range -/
theorem RdA.one {d : D} {vs : List V} (h : RdA C Z H [d] vs) : ∃ v F, vs = [v] ∧ RdV C Z H d v F := by
  obtain ⟨v, r, F, rfl, h1, h2⟩ := h
  exact ⟨v, F, by rw [show r = [] from h2], h1⟩
theorem RdA.two {d e : D} {vs : List V} (h : RdA C Z H [d, e] vs) : ∃ v F w G, vs = [v, w] ∧ RdV C Z H d v F ∧ RdV C Z H e w G := by
  obtain ⟨v, r, F, rfl, h1, h2⟩ := h
  obtain ⟨w, G, rfl, h3⟩ := RdA.one h2
  exact ⟨v, F, w, G, rfl, h1, h3⟩
theorem RdA.three {d e f : D} {vs : List V} (h : RdA C Z H [d, e, f] vs) : ∃ v F w G u E, vs = [v, w, u] ∧ RdV C Z H d v F ∧ RdV C Z H e w G ∧ RdV C Z H f u E := by
  obtain ⟨v, r, F, rfl, h1, h2⟩ := h
  obtain ⟨w, G, u, E, rfl, h3, h4⟩ := RdA.two h2
  exact ⟨v, F, w, G, u, E, rfl, h1, h3, h4⟩
def rng1 : List D → Option (List D)
  | [.int j] => if -(2 ^ 62) ≤ j ∧ j < 2 ^ 62 then some ((List.range j.toNat).map fun k : Nat => .int (k : Int)) else none
  | _ => none
def rng2 : List D → Option (List D)
  | [.int i, .int j] => if -(2 ^ 62) ≤ i ∧ i < 2 ^ 62 ∧ -(2 ^ 62) ≤ j ∧ j < 2 ^ 62 then some ((List.range (j - i).toNat).map fun k : Nat => .int (i + (k : Int))) else none
  | _ => none
def rng3 : List D → Option (List D)
  | [.int i, .int j, .int c] => if c = -1 ∧ -(2 ^ 62) ≤ i ∧ i < 2 ^ 62 ∧ -(2 ^ 62) ≤ j ∧ j < 2 ^ 62 then some ((List.range (i - j).toNat).map fun k : Nat => .int (i + (k : Int) * -1)) else none
  | _ => none
def iOf (f : List D → Option (List D)) (m : ML) : MI := fun env => (m env).bind fun ds e => match f ds with | some r => .ok r e | none => .no
theorem walk_fn {J : It} {n : Nat} {f : Nat → Int} (w : Walk J n (fun _ => True) (YFn fun i => .int (f i))) : Walk J ((List.range n).map fun k => D.int (f k)).length (fun H => Same Z H) (YD C Z ((List.range n).map fun k => D.int (f k))) := by
  rw [List.length_map, List.length_range]
  refine w.mono (fun _ _ => trivial) ?_
  rintro i H2 x H3 hi _ ⟨rfl, rfl⟩
  exact ⟨.int (f i), by simp [hi], .inl ⟨rfl, rd_int⟩⟩
theorem ri_of {st : Bool} {t : TA} {m : ML} {f : List D → Option (List D)} {wi : TA → TI} (h : RefTA N st t m)
    (hw : ∀ ds vs Z H F items (Rr : It → Hp → Prop), Ok Z H F → RdA N.C Z H ds vs → f ds = some items → (∀ J, Walk J items.length (fun H => Same Z H) (YD N.C Z items) → Rr J H) → ∀ σ, wi (fun _ H Q => Q vs H) σ H Rr)
    (hm : ∀ σ H Rr, (t σ H fun vs H1 => wi (fun _ H Q => Q vs H) σ H1 Rr) → wi t σ H Rr) : RefI N (wi t) (iOf f m) := fun env σ Z H F Rr o r w => by
  refine hm σ H Rr (h env σ Z H F _ o r (w.bind.mono (Pin.refl _ _) (Ext.refl o) ?_))
  intro ds env1 k vs Z1 H1 F1 x rv r1 _
  cases q : f ds with
  | none => rw [q] at k; exact k.elim
  | some items =>
    rw [q] at k
    exact hw ds vs Z1 H1 F1 items Rr x.ok rv q (fun J wk => k J Z1 H1 F1 x r1 wk) σ
theorem ri_rng1 {st : Bool} {t : TA} {m : ML} (h : RefTA N st t m) : RefI N (iRng1 t) (iOf rng1 m) := by
  refine ri_of h ?_ fun _ _ _ h => h
  intro ds vs Z H F items Rr o rv e k σ
  unfold rng1 at e
  split at e
  · rename_i j
    split at e
    · rename_i q
      cases e
      obtain ⟨v, Fd, rfl, h1⟩ := rv.one
      rw [RdV] at h1
      obtain ⟨rfl, rfl⟩ := h1
      refine ⟨j, rfl, q.1, q.2, k _ ?_⟩
      have w := walk_range (lo := 0) (n := j.toNat)
      have e : (fun i : Nat => V.int (0 + (i : Int))) = fun i : Nat => V.int (i : Int) := by funext i; simp
      rw [e] at w
      exact walk_fn w
    · cases e
  · cases e
theorem ri_rng2 {st : Bool} {t : TA} {m : ML} (h : RefTA N st t m) : RefI N (iRng2 t) (iOf rng2 m) := by
  refine ri_of h ?_ fun _ _ _ h => h
  intro ds vs Z H F items Rr o rv e k σ
  unfold rng2 at e
  split at e
  · rename_i i j
    split at e
    · rename_i q
      cases e
      obtain ⟨v, Fd, w, G, rfl, h1, h2⟩ := rv.two
      rw [RdV] at h1 h2
      obtain ⟨rfl, rfl⟩ := h1
      obtain ⟨rfl, rfl⟩ := h2
      exact ⟨i, j, rfl, q, k _ (walk_fn walk_range)⟩
    · cases e
  · cases e
theorem ri_rng3 {st : Bool} {t : TA} {m : ML} (h : RefTA N st t m) : RefI N (iRng3 t) (iOf rng3 m) := by
  refine ri_of h ?_ fun _ _ _ h => h
  intro ds vs Z H F items Rr o rv e k σ
  unfold rng3 at e
  split at e
  · rename_i i j c
    split at e
    · rename_i q
      cases e
      obtain ⟨v, Fd, w, G, u, E, rfl, h1, h2, h3⟩ := rv.three
      rw [RdV] at h1 h2 h3
      obtain ⟨rfl, rfl⟩ := h1
      obtain ⟨rfl, rfl⟩ := h2
      obtain ⟨rfl, rfl⟩ := h3
      obtain ⟨rfl, q⟩ := q
      exact ⟨i, j, -1, _, rfl, RgC.neg q.1 q.2.1 q.2.2.1 q.2.2.2, k _ (walk_fn walk_rangeC)⟩
    · cases e
  · cases e
/-- zip of two lists or two tuples that hold no owned node -/
def zipD : List D → Option (List D)
  | [.tup a, .tup b] => some (List.zipWith (fun x y => .tup [x, y]) a b)
  | [.lst false a, .lst false b] => some (List.zipWith (fun x y => .tup [x, y]) a b)
  | _ => none
theorem walk_pair {J : It} {n : Nat} {a b : List D} {xs ys : List V} {G : Hp → Prop} (w : Walk J n G (YPair (fun i => xs[i]?) (fun i => ys[i]?))) (hn : n = min a.length b.length) (hG : ∀ H, Same Z H → G H) (ra : RdL C Z H a xs []) (rb : RdL C Z H b ys []) :
    Walk J (List.zipWith (fun x y => D.tup [x, y]) a b).length (fun H => Same Z H) (YD C Z (List.zipWith (fun x y => D.tup [x, y]) a b)) := by
  rw [List.length_zipWith, ← hn]
  refine w.mono hG ?_
  rintro i H2 x H3 hi _ ⟨T, x1, y1, rfl, h2, rfl, h3, h4⟩
  have i1 : i < a.length := by omega
  have i2 : i < b.length := by omega
  obtain ⟨d, v, e1, e2, e3⟩ := ra.get i1
  obtain ⟨d', v', g1, g2, g3⟩ := rb.get i2
  have h3 : xs[i]? = some x1 := h3
  have h4 : ys[i]? = some y1 := h4
  rw [e2] at h3; cases h3
  rw [g2] at h4; cases h4
  refine ⟨.tup [d, d'], by simp [List.getElem?_zipWith, e1, g1], .inr ⟨T, [x1, y1], [d, d'], rfl, h2, rfl, rfl, ?_⟩⟩
  exact ⟨x1, [y1], [], [], rfl, rfl, e3.frozen (Same.refl _) _, y1, [], [], [], rfl, rfl, g3.frozen (Same.refl _) _, rfl, rfl⟩
theorem ri_zip {st : Bool} {t : TA} {m : ML} (h : RefTA N st t m) : RefI N (iZipA N.C.K t) (iOf zipD m) := by
  refine ri_of (wi := iZipA N.C.K) h ?_ fun _ _ _ h => h
  intro ds vs Z H F items Rr o rv e k σ
  unfold zipD at e
  split at e
  · rename_i a b
    cases e
    obtain ⟨v, Fd, w, G, rfl, h1, h2⟩ := rv.two
    rw [RdV] at h1 h2
    obtain ⟨_, p, xs, rfl, p1, p2⟩ := h1
    obtain ⟨_, q, ys, rfl, q1, q2⟩ := h2
    refine ⟨p, q, xs, ys, rfl, .inr ⟨Same.seqT o.zh p1, Same.seqT o.zh q1, k _ ?_⟩⟩
    exact walk_pair (walk_zipT (K := N.C.K) (a := p) (b := q) rfl) (by rw [p2.length, q2.length]) (fun H s => ⟨Same.seqT s p1, Same.seqT s q1⟩) p2 q2
  · rename_i a b
    cases e
    obtain ⟨v, Fd, w, G, rfl, h1, h2⟩ := rv.two
    rw [RdV] at h1 h2
    obtain ⟨_, p, xs, rfl, p1, p2⟩ := h1
    obtain ⟨_, q, ys, rfl, q1, q2⟩ := h2
    replace p1 := sqL_of (K := N.C.K) p1; replace q1 := sqL_of (K := N.C.K) q1
    refine ⟨p, q, xs, ys, rfl, .inl ⟨o.zh.seq p1, o.zh.seq q1, k _ ?_⟩⟩
    exact walk_pair (walk_zip (K := N.C.K) (a := p) (b := q) rfl) (by rw [p2.length, q2.length]) (fun H s => ⟨s.seq p1, s.seq q1⟩) p2 q2
  · cases e
/-- enumerate of a list that holds no owned node -/
def enumD : List D → Option (List D)
  | [.lst false a] => some ((List.range a.length).zipWith (fun (i : Nat) x => .tup [.int (i : Int), x]) a)
  | _ => none
theorem ri_enum {st : Bool} {t : TA} {m : ML} (h : RefTA N st t m) : RefI N (iEnum N.C.K t) (iOf enumD m) := by
  refine ri_of (wi := iEnum N.C.K) h ?_ fun _ _ _ h => h
  intro ds vs Z H F items Rr o rv e k σ
  unfold enumD at e
  split at e
  · rename_i a
    cases e
    obtain ⟨v, Fd, rfl, h1⟩ := rv.one
    rw [RdV] at h1
    obtain ⟨_, p, xs, rfl, p1, p2⟩ := h1
    replace p1 := sqL_of (K := N.C.K) p1
    refine ⟨p, xs, rfl, o.zh.seq p1, k _ ?_⟩
    rw [List.length_zipWith, List.length_range, Nat.min_self]
    have w := walk_enum (K := N.C.K) (a := p) (xs := xs)
    rw [← p2.length] at w
    refine w.mono (fun H s => s.seq p1) ?_
    rintro i H2 x H3 hi _ ⟨T, x1, y1, rfl, h2, rfl, h3, h4⟩
    obtain ⟨d, v, e1, e2, e3⟩ := p2.get hi
    have h4 : xs[i]? = some y1 := h4
    have h3 : some (V.int (i : Int)) = some x1 := h3
    cases h3
    rw [e2] at h4; cases h4
    refine ⟨.tup [.int (i : Int), d], by rw [List.getElem?_zipWith, e1, List.getElem?_range hi], .inr ⟨T, [.int (i : Int), y1], [.int (i : Int), d], rfl, h2, rfl, rfl, ?_⟩⟩
    exact ⟨.int (i : Int), [y1], [], [], rfl, rfl, rd_int, y1, [], [], [], rfl, rfl, e3.frozen (Same.refl _) _, rfl, rfl⟩
  · cases e
/-- the signs of a text -/
def iStrD (m : ME) : MI := fun env => (m env).bind fun d e => match d with | .str x => .ok (x.cps.toList.map fun c => .str ⟨#[c]⟩) e | _ => .no
theorem ri_str {st : Bool} {t : TE} {m : ME} (h : RefT N st t m) : RefI N (iStr t) (iStrD m) := fun env σ Z H F Rr o r w => by
  refine h env σ Z H F _ o r (w.bind.mono (Pin.refl _ _) (Ext.refl o) ?_)
  intro d env1 k v Z1 H1 Fd F1 x rv r1 _
  cases d with
  | str z =>
    rw [RdV] at rv
    obtain ⟨rfl, rfl⟩ := rv
    refine ⟨z, rfl, k _ Z1 H1 F1 x r1 ?_⟩
    rw [List.length_map, Array.length_toList]
    refine (walk_str (z := z)).mono (fun _ _ => trivial) ?_
    rintro i H2 xv H3 hi _ ⟨rfl, c, e, rfl⟩
    refine ⟨.str ⟨#[c]⟩, ?_, .inl ⟨rfl, rd_str⟩⟩
    rw [List.getElem?_map, Array.getElem?_toList, e]
    rfl
  | _ => exact k.elim

/-! ### comprehensions -/
def R.bind0 {α β : Type} (r : R α) (f : α → Env → R β) : R β :=
  match r with
  | .ok a e => f a e
  | _ => .no
@[simp] theorem R.bind0_ok {α β : Type} {a : α} {e : Env} {f : α → Env → R β} : (R.ok a e).bind0 f = f a e := rfl
def wipeE (env : Env) : List Nat → Env
  | [] => env
  | v :: vs => (wipeE env vs).set v none
def lcF (g : MG) (c : MB) (m : ME) (ws : List Nat) : List D → List D → Env → R (List D)
  | [], acc, env => .ok acc env
  | d :: ds, acc, env => match g d env with
    | none => .no
    | some e => (c e).bind0 fun b e => if b then (m e).bind0 fun y e => if acc.length < sizeLine then lcF g c m ws ds (acc ++ [y]) (wipeE e ws) else .no
      else lcF g c m ws ds acc (wipeE e ws)
def eLc (it : MI) (g : MG) (c : MB) (m : ME) (ws : List Nat) : ME := fun env => (it env).bind fun ds e => (lcF g c m ws ds [] (wipeE e ws)).bind0 fun r e => .ok (.lst true r) e
def bYes : MB := fun env => .ok true env
theorem rb_yes : RefB N true tYes bYes := fun env σ Z H F Q o r w => w Z H F (Ext.refl o) r fun _ => Same.refl _
theorem wipe_get {σ : L2.St} : ∀ {ws : List Nat} {i : Nat}, i ∉ ws → (wipe σ ws)[i]? = σ[i]?
  | [], i, _ => rfl
  | w :: ws, i, h => by
    rw [List.mem_cons, not_or] at h
    rw [wipe, List.getElem?_set_ne (Ne.symm h.1), wipe_get h.2]
theorem RdE.other : ∀ {env : Env} {σ σ' : L2.St} {F : List Addr}, RdE C Z H env σ F → σ'.length = σ.length → (∀ i : Nat, ((env[i]?).join).isSome → σ'[i]? = σ[i]?) → RdE C Z H env σ' F
  | [], σ, σ', F, h, l, _ => by
    obtain ⟨rfl, rfl⟩ := h
    exact ⟨List.eq_nil_of_length_eq_zero l, rfl⟩
  | none :: e, σ, σ', F, h, l, k => by
    obtain ⟨x, s, rfl, h⟩ := h
    cases σ' with
    | nil => simp at l
    | cons y s' => exact ⟨y, s', rfl, RdE.other h (by simpa using l) fun i hi => by simpa using k (i + 1) (by simpa using hi)⟩
  | some d :: e, σ, σ', F, h, l, k => by
    obtain ⟨v, s, F1, F2, rfl, rfl, rv, h⟩ := h
    cases σ' with
    | nil => simp at l
    | cons y s' =>
      have : y = some v := by simpa using k 0 rfl
      subst this
      exact ⟨v, s', F1, F2, rfl, rfl, rv, RdE.other h (by simpa using l) fun i hi => by simpa using k (i + 1) (by simpa using hi)⟩
theorem RdE.wipe' : ∀ {ws : List Nat} {env : Env} {σ : L2.St} {F : List Addr}, RdE C Z H env σ F → ∃ F2, F2.Sublist F ∧ RdE C Z H (wipeE env ws) σ F2
  | [], env, σ, F, h => ⟨F, List.Sublist.refl _, h⟩
  | w :: ws, env, σ, F, h => by
    obtain ⟨F2, h1, h2⟩ := RdE.wipe' (ws := ws) h
    obtain ⟨F3, h3, h4⟩ := h2.drop w
    exact ⟨F3, h3.trans h1, h4⟩
theorem wipeE_none : ∀ {ws : List Nat} {env : Env} {i : Nat}, i ∈ ws → ¬ (((wipeE env ws)[i]?).join).isSome
  | w :: ws, env, i, h => by
    rw [wipeE]
    by_cases q : w = i
    · subst q
      rw [List.getElem?_set]
      rw [if_pos rfl]
      split <;> simp
    · rw [List.getElem?_set_ne q]
      exact wipeE_none ((List.mem_cons.mp h).resolve_left (Ne.symm q))
theorem wipe_len {σ : L2.St} : ∀ ws : List Nat, (wipe σ ws).length = σ.length
  | [] => rfl
  | w :: ws => by rw [wipe, List.length_set, wipe_len ws]
theorem wipe_eq {σ σ2 : L2.St} {ws : List Nat} (l : σ2.length = σ.length) (h : ∀ i, i ∉ ws → σ2[i]? = σ[i]?) : wipe σ2 ws = wipe σ ws := by
  refine List.ext_getElem? fun i => ?_
  by_cases q : i ∈ ws
  · have key : ∀ (τ : L2.St), (wipe τ ws)[i]? = if i < τ.length then some none else none := by
      intro τ
      induction ws with
      | nil => cases q
      | cons w ws ih =>
        rw [wipe]
        by_cases e : w = i
        · subst e
          rw [List.getElem?_set, if_pos rfl, wipe_len]
        · rw [List.getElem?_set_ne e]
          have q2 : i ∈ ws := (List.mem_cons.mp q).resolve_left (Ne.symm e)
          clear ih h
          induction ws with
          | nil => cases q2
          | cons w2 ws ih2 =>
            rw [wipe]
            by_cases e2 : w2 = i
            · subst e2
              rw [List.getElem?_set, if_pos rfl, wipe_len]
            · rw [List.getElem?_set_ne e2]
              exact ih2 (by simp [(List.mem_cons.mp q2).resolve_left (Ne.symm e2)]) ((List.mem_cons.mp q2).resolve_left (Ne.symm e2))
    rw [key, key, l]
  · rw [wipe_get q, wipe_get q, h i q]
/-- a name that no claim stands for may change -/
theorem RdE.wiped {ws : List Nat} {env : Env} {τ : L2.St} (h : RdE C Z H (wipeE env ws) σ F) (l : τ.length = σ.length) (e : ∀ i, i ∉ ws → τ[i]? = σ[i]?) : RdE C Z H (wipeE env ws) τ F :=
  h.other l fun i hi => e i fun z => wipeE_none z hi

theorem RdL.snoc : ∀ {ds : List D} {vs : List V} {F1 F2 : List Addr} {d : D} {v : V}, RdL C Z H ds vs F1 → RdV C Z H d v F2 → RdL C Z H (ds ++ [d]) (vs ++ [v]) (F1 ++ F2)
  | [], _, _, F2, d, v, h, r => by
    rw [RdL] at h
    obtain ⟨rfl, rfl⟩ := h
    exact ⟨v, [], F2, [], rfl, by simp, r, rfl, rfl⟩
  | e :: ds, _, _, F2, d, v, h, r => by
    rw [RdL] at h
    obtain ⟨u, r', G1, G2, rfl, rfl, h1, h2⟩ := h
    exact ⟨u, r' ++ [v], G1, G2 ++ F2, rfl, by simp, h1, RdL.snoc h2 r⟩
theorem RdV.mut {a : Addr} {o : HO} {d : D} {v : V} (h : RdV C Z H d v F) (n : a ∉ F) : RdV C Z (upd H a o) d v F :=
  RdV.mono (Same.refl _) d v F (fun b hb => upd_ne fun z : b = a => n (by rw [← z]; exact hb)) h
theorem RdL.mut {a : Addr} {o : HO} {d : List D} {v : List V} (h : RdL C Z H d v F) (n : a ∉ F) : RdL C Z (upd H a o) d v F :=
  RdL.mono (Same.refl _) d v F (fun b hb => upd_ne fun z : b = a => n (by rw [← z]; exact hb)) h
theorem RdE.mut {a : Addr} {o : HO} {env : Env} (h : RdE C Z H env σ F) (n : a ∉ F) : RdE C Z (upd H a o) env σ F :=
  RdE.mono (Same.refl _) (fun b hb => upd_ne fun z : b = a => n (by rw [← z]; exact hb)) h
theorem Ext.heldL {ds : List D} {vs : List V} (x : Ext Z H F Z' H' F') (hd : ∀ a ∈ G, a ∉ F) (r : RdL C Z H ds vs G) : RdL C Z' H' ds vs G := by
  refine RdL.mono x.zz ds vs G (fun a ha => ?_) r
  have := RdL.live ds vs G r a ha
  cases e : H a with
  | none => exact absurd e this
  | some u => rw [x.keep a u e (hd a ha)]
theorem Ext.at {a : Addr} {o : HO} (x : Ext Z H F Z' H' F') (n : a ∉ F) (h : H a = some o) : H' a = some o := x.keep a o h n
def Cn.calm (N : Cn) : Cn := { N with px := none }
theorem Wp.calm {α : Type} {r : R α} {k : α → Env → Prop} (w : ∃ a e, r = .ok a e ∧ k a e) : Wp N σ Z H F r k := by
  obtain ⟨a, e, rfl, h⟩ := w
  exact h
theorem bind0_ok {α β : Type} {r : R α} {f : α → Env → R β} {b : β} {e : Env} (h : r.bind0 f = .ok b e) : ∃ a e1, r = .ok a e1 ∧ f a e1 = .ok b e := by
  cases r with
  | ok a e1 => exact ⟨a, e1, rfl, h⟩
  | ex => cases h
  | no => cases h
theorem re_lc {s1 s2 : Bool} {ws : List Nat} {wi : TI} {it : MI} {g : TG} {mg : MG} {tt : TT} {c : MB} {te : TE} {m : ME} (hi : RefI N wi it) (hg : RefG N.calm ws g mg) (hc : RefB N.calm s1 tt c) (he : RefE N.calm s2 te m) :
    RefE N false (tLc wi g tt te ws) (eLc it mg c m ws) := fun env σ Z H F Q o r w => by
  refine hi env σ Z H F _ o r (w.bind.mono (Pin.refl _ _) (Ext.refl o) ?_)
  intro ds env1 k J Z1 H1 F1 x1 r1 wk Dn hD
  cases hfin : lcF mg c m ws ds [] (wipeE env1 ws) with
  | ex => rw [hfin] at k; exact k.elim
  | no => rw [hfin] at k; exact k.elim
  | ok res envF =>
  rw [hfin] at k
  obtain ⟨F2, sF2, rF2⟩ := r1.wipe' (ws := ws)
  have xn := Ext.new (o := .lst []) x1.ok hD
  have x2 : Ext Z1 H1 F1 Z1 (upd H1 Dn (.lst [])) ((Dn :: ([] : List Addr)) ++ F2) := xn.sub (by
    refine List.nodup_cons.mpr ⟨fun z => ?_, sF2.nodup x1.ok.nd⟩
    exact (List.nodup_cons.mp xn.ok.nd).1 (sF2.mem z)) fun a ha => by
      rcases List.mem_cons.mp ha with rfl | ha
      · exact List.mem_cons_self ..
      · exact List.mem_cons_of_mem _ (sF2.mem ha)
  refine lc_it wk (fun i H2 => ∃ e2 Z2 F2 acc vs Fa, Ext Z1 H1 F1 Z2 H2 ((Dn :: Fa) ++ F2) ∧ RdE N.C Z2 H2 (wipeE e2 ws) (wipe σ ws) F2 ∧ H2 Dn = some (.lst vs) ∧ RdL N.C Z2 H2 acc vs Fa ∧
      lcF mg c m ws (ds.drop i) acc (wipeE e2 ws) = .ok res envF) ?_ ?_ ?_ ?_
  · refine ⟨env1, Z1, F2, [], [], [], x2, ?_, upd_same, ⟨rfl, rfl⟩, by simpa using hfin⟩
    refine RdE.wiped (σ := σ) ?_ (wipe_len ws) (fun i hi => wipe_get hi)
    exact rF2.same (Same.refl _) (same_new hD)
  · rintro i H2 _ ⟨e2, Z2, F2, acc, vs, Fa, x2, _⟩
    exact x2.zz.trans x2.ok.zh
  · rintro i xv H2 H3 hlt ⟨e2, Z2, F2, acc, vs, Fa, x2, r2, hDn, ra, hf⟩ y
    obtain ⟨d, Z3, ed, x3, rv, r3, _⟩ := y.state x2.zz x2.ok.split r2
    have hl : i < ds.length := hlt
    have e3 : ds.drop i = d :: ds.drop (i + 1) := by
      rw [List.drop_eq_getElem_cons hl]
      congr 1
      rw [List.getElem?_eq_getElem hl] at ed
      exact Option.some.inj ed
    rw [e3, lcF] at hf
    cases q : mg d (wipeE e2 ws) with
    | none => rw [q] at hf; cases hf
    | some env3 =>
      rw [q] at hf
      obtain ⟨b, env4, hb, hf⟩ := bind0_ok hf
      have y3 := x3.hold x2.ok
      refine hg (wipeE e2 ws) (wipe σ ws) Z3 H3 F2 [] d xv _ env3 (by simpa using x3.ok) r3 rv q fun σ4 F4 h1 h2 h3 h4 => ⟨?_, ?_⟩
      · rw [wipe_eq (σ := wipe σ ws) h3.1 h3.2]
        exact wipe_eq (wipe_len ws) (fun i hi => wipe_get hi)
      have o4 : Ok Z3 H3 ((Dn :: Fa) ++ F4) := y3.ok.sub (by
        refine List.nodup_append.mpr ⟨nodup_left y3.ok.nd, h1, fun a ha b hb e => ?_⟩
        subst e
        exact y3.ok.disj a ha (by simpa using h2 a hb)) fun a ha => by
          rcases List.mem_append.mp ha with z | z
          · exact List.mem_append_left _ z
          · exact List.mem_append_right _ (by simpa using h2 a z)
      have x4 : Ext Z2 H2 ((Dn :: Fa) ++ F2) Z3 H3 ((Dn :: Fa) ++ F4) := y3.sub o4.nd fun a ha => by
        rcases List.mem_append.mp ha with z | z
        · exact List.mem_append_left _ z
        · exact List.mem_append_right _ (by simpa using h2 a z)
      refine hc env3 σ4 Z3 H3 F4 _ o4.split h4 (Wp.calm ⟨b, env4, hb, ?_⟩)
      intro Z5 H5 F5 x5 r5 _
      have y5 := x5.hold o4
      have D3 : H3 Dn = some (.lst vs) := x3.at (x2.ok.disj Dn (List.mem_cons_self ..)) hDn
      have D5 : H5 Dn = some (.lst vs) := x5.at (o4.disj Dn (List.mem_cons_self ..)) D3
      have ra3 : RdL N.C Z3 H3 acc vs Fa := x3.heldL (fun a ha => x2.ok.disj a (List.mem_cons_of_mem _ ha)) ra
      have ra5 : RdL N.C Z5 H5 acc vs Fa := x5.heldL (fun a ha => o4.disj a (List.mem_cons_of_mem _ ha)) ra3
      have rlen : ∀ {σx : L2.St}, σx.length = (wipe σ ws).length → (∀ i, i ∉ ws → σx[i]? = (wipe σ ws)[i]?) → True := fun _ _ => trivial
      cases b with
      | false =>
        rw [if_neg Bool.false_ne_true] at hf ⊢
        obtain ⟨F6, s6, r6⟩ := r5.wipe' (ws := ws)
        refine ⟨env4, Z5, F6, acc, vs, Fa, ?_, r6.wiped h3.1.symm (fun i hi => (h3.2 i hi).symm), D5, ra5, hf⟩
        refine ((x2.trans x4).trans y5).sub (List.nodup_append.mpr ⟨nodup_left y5.ok.nd, s6.nodup (nodup_right y5.ok.nd), fun a ha b hb e => ?_⟩) fun a ha => ?_
        · subst e
          exact y5.ok.disj a ha (s6.mem hb)
        · rcases List.mem_append.mp ha with z | z
          · exact List.mem_append_left _ z
          · exact List.mem_append_right _ (s6.mem z)
      | true =>
        rw [if_pos rfl] at hf ⊢
        obtain ⟨dy, env6, hy, hf⟩ := bind0_ok hf
        by_cases hz : acc.length < sizeLine
        · rw [if_pos hz] at hf
          refine he env4 σ4 Z5 H5 F5 _ y5.ok.split r5 (Wp.calm ⟨dy, env6, hy, ?_⟩)
          intro yv Z6 H6 Fy F6 x6 ry r6 _
          have y6 : Ext Z5 H5 ((Dn :: Fa) ++ F5) Z6 H6 ((Dn :: Fa) ++ (Fy ++ F6)) := x6.hold y5.ok
          have D6 : H6 Dn = some (.lst vs) := x6.at (y5.ok.disj Dn (List.mem_cons_self ..)) D5
          have ra6 : RdL N.C Z6 H6 acc vs Fa := x6.heldL (fun a ha => y5.ok.disj a (List.mem_cons_of_mem _ ha)) ra5
          refine ⟨vs, D6, by rw [← ra6.length]; exact hz, ?_⟩
          obtain ⟨F7, s7, r7⟩ := r6.wipe' (ws := ws)
          have nd6 := y6.ok.nd
          have hDm : Dn ∈ (Dn :: Fa) ++ (Fy ++ F6) := by simp
          have x7 := Ext.mut (o := .lst (vs ++ [yv])) y6.ok hDm
          have hn : Dn ∉ Fa ∧ Dn ∉ Fy ∧ Dn ∉ F6 := by
            simp only [List.cons_append, List.nodup_cons, List.mem_append, not_or] at nd6
            exact ⟨nd6.1.1, nd6.1.2.1, nd6.1.2.2⟩
          refine ⟨env6, Z6, F7, acc ++ [dy], vs ++ [yv], Fa ++ Fy, ?_, ?_, upd_same, RdL.snoc (ra6.mut hn.1) (ry.mut hn.2.1), hf⟩
          · refine (((x2.trans x4).trans y5).trans (y6.trans x7)).sub ?_ fun a ha => ?_
            · simp only [List.cons_append, List.nodup_cons, List.mem_append, not_or, List.append_assoc] at nd6 ⊢
              refine ⟨⟨hn.1, hn.2.1, fun z => hn.2.2 (s7.mem z)⟩, ?_⟩
              have n2 := nd6.2
              refine List.nodup_append.mpr ⟨nodup_left n2, List.nodup_append.mpr ⟨nodup_left (nodup_right n2), s7.nodup (nodup_right (nodup_right n2)), fun a ha b hb e => ?_⟩, fun a ha b hb e => ?_⟩
              · subst e
                exact (List.nodup_append.mp (nodup_right n2)).2.2 a ha a (s7.mem hb) rfl
              · subst e
                refine (List.nodup_append.mp n2).2.2 a ha a ?_ rfl
                rcases List.mem_append.mp hb with z | z
                · exact List.mem_append_left _ z
                · exact List.mem_append_right _ (s7.mem z)
            · simp only [List.cons_append, List.mem_cons, List.mem_append] at ha ⊢
              rcases ha with z | (z | z) | z
              · exact .inl z
              · exact .inr (.inl z)
              · exact .inr (.inr (.inl z))
              · exact .inr (.inr (.inr (s7.mem z)))
          · exact RdE.mut (r7.wiped h3.1.symm (fun i hi => (h3.2 i hi).symm)) fun z => hn.2.2 (s7.mem z)
        · rw [if_neg hz] at hf; cases hf
  · rintro H2 ⟨e2, Z2, F2, acc, vs, Fa, x2, r2, hDn, ra, hf⟩
    rw [List.drop_length, lcF] at hf
    cases hf
    refine k (.ref Dn) Z2 H2 (Dn :: Fa) F2 (x1.trans x2) ?_ (r2.wiped (wipe_len ws).symm (fun i hi => (wipe_get hi).symm)) fun z => by cases z
    rw [RdV]
    exact ⟨Dn, vs, Fa, rfl, hDn, rfl, ra⟩
end
end Mi

set_option maxHeartbeats 4000000
namespace Mi
open PySem PySem.Spec PyProof.Rows L2 RZ Ov

/-! ### what a def promises by its mirror -/
inductive Rf where
  | ok (d : D) (io : List D)
  | ex (x : Exn) (io : List D)
  | no
abbrev Fun := List D → Rf
def pick {α : Type} : List Bool → List α → List α
  | true :: ms, v :: vs => v :: pick ms vs
  | false :: ms, _ :: vs => pick ms vs
  | _, _ => []
def spM (C : Ct) (xc : Bool) (io : List Bool) (f : Fun) : Sp := fun vs H Q E => ∃ ds Z F, vs.length = io.length ∧ RdL C Z H ds vs F ∧ Ok Z H F ∧
  match f ds with
  | .ok d ios => ∀ v Z' H' Fv Fi, Ext Z H F Z' H' (Fv ++ Fi) → RdV C Z' H' d v Fv → RdL C Z' H' ios (pick io vs) Fi → Q v H'
  | .ex x ios => xc = true ∧ ∀ a Ca Z' H' Fi us, Ext Z H F Z' H' Fi → C.cls x.c = some Ca → H' a = some (.xd us) → RdF C Z' H' x.fs us [] → RdL C Z' H' ios (pick io vs) Fi → E (.ref Ca) (some a) H'
  | .no => False
/-- the values of names, none of them forgotten -/
def allS : Env → Option (List D)
  | [] => some []
  | some d :: r => (allS r).map (d :: ·)
  | none :: _ => none
/-- a def from its body: n further names -/
def fnOf (n : Nat) (io : List Bool) (m : MS) : Fun := fun ds =>
  match m (ds.map some ++ List.replicate n none) with
  | .ok (.rt d) env => (match allS (pick io env) with | some ios => .ok d ios | none => .no)
  | .ok .nx env => (match allS (pick io env) with | some ios => .ok .non ios | none => .no)
  | .ok _ _ => .no
  | .ex x env => (match allS (pick io env) with | some ios => .ex x ios | none => .no)
  | .no => .no
def pinOf : List Bool → Nat → List Nat
  | [], _ => []
  | true :: r, i => i :: pinOf r (i + 1)
  | false :: r, i => pinOf r (i + 1)

section
variable {N : Cn} {C : Ct} {Z H Z' H' Z1 H1 : Hp} {F F' G Fv F1 : List Addr} {σ σ1 : L2.St}
theorem RdE.ofL : ∀ {ds : List D} {vs : List V} {F : List Addr} {n : Nat}, RdL C Z H ds vs F → RdE C Z H (ds.map some ++ List.replicate n none) (vs.map some ++ List.replicate n none) F
  | [], _, F, n, h => by
    rw [RdL] at h
    obtain ⟨rfl, rfl⟩ := h
    induction n with
    | zero => exact ⟨rfl, rfl⟩
    | succ n ih => exact ⟨none, _, rfl, ih⟩
  | d :: ds, _, F, n, h => by
    rw [RdL] at h
    obtain ⟨v, r, F1, F2, rfl, rfl, h1, h2⟩ := h
    exact ⟨v, _, F1, F2, rfl, rfl, h1, RdE.ofL h2⟩
/-- the arguments that come back -/
theorem RdE.pick : ∀ {io : List Bool} {env : Env} {σ : L2.St} {F : List Addr} {ios : List D} {vs : List V}, RdE C Z H env σ F → allS (pick io env) = some ios → io.length ≤ env.length →
    pick io (σ.take io.length) = (pick io vs).map some → vs.length = io.length → ∃ F2, F2.Sublist F ∧ RdL C Z H ios (Mi.pick io vs) F2
  | [], env, σ, F, ios, vs, h, e, l, p, hv => by
    obtain rfl : [] = ios := by cases env <;> (simp [Mi.pick, allS] at e; exact e.symm)
    cases vs <;> exact ⟨[], List.nil_sublist _, by simp [Mi.pick, RdL]⟩
  | b :: io, [], σ, F, ios, vs, h, e, l, p, hv => by simp at l
  | b :: io, x :: env, σ, F, ios, [], h, e, l, p, hv => by simp at hv
  | false :: io, x :: env, σ, F, ios, v :: vs, h, e, l, p, hv => by
    cases x with
    | none =>
      obtain ⟨y, s, rfl, h⟩ := h
      obtain ⟨F2, s2, r2⟩ := RdE.pick (io := io) (vs := vs) h (by simpa [Mi.pick] using e) (by simpa using l) (by simpa [Mi.pick] using p) (by simpa using hv)
      exact ⟨F2, s2, by simpa [Mi.pick] using r2⟩
    | some d =>
      obtain ⟨y, s, G1, G2, rfl, rfl, _, h⟩ := h
      obtain ⟨F2, s2, r2⟩ := RdE.pick (io := io) (vs := vs) h (by simpa [Mi.pick] using e) (by simpa using l) (by simpa [Mi.pick] using p) (by simpa using hv)
      exact ⟨F2, s2.trans (List.sublist_append_right ..), by simpa [Mi.pick] using r2⟩
  | true :: io, x :: env, σ, F, ios, v :: vs, h, e, l, p, hv => by
    cases x with
    | none => simp [Mi.pick, allS] at e
    | some d =>
      obtain ⟨y, s, G1, G2, rfl, rfl, rv, h⟩ := h
      simp only [Mi.pick, allS, Option.map_eq_some_iff] at e
      obtain ⟨ios', e, rfl⟩ := e
      have p' : some y = some v ∧ Mi.pick io (s.take io.length) = (Mi.pick io vs).map some := by simpa [Mi.pick] using p
      obtain ⟨F2, s2, r2⟩ := RdE.pick (io := io) (vs := vs) h e (by simpa using l) p'.2 (by simpa using hv)
      refine ⟨G1 ++ F2, List.Sublist.append_left s2 G1, ?_⟩
      rw [Mi.pick, RdL]
      exact ⟨v, _, G1, F2, rfl, rfl, by rw [← Option.some.inj p'.1]; exact rv, r2⟩
theorem pick_pin : ∀ {io : List Bool} {vs : List V} {σ' : L2.St} {k : Nat} {pre : L2.St} {post : L2.St}, vs.length = io.length → pre.length = k → (∀ i ∈ pinOf io k, σ'[i]? = (pre ++ (vs.map some ++ post))[i]?) →
    k + io.length ≤ σ'.length → Mi.pick io ((σ'.drop k).take io.length) = (Mi.pick io vs).map some
  | [], vs, σ', k, pre, post, h, hk, e, l => by cases vs <;> simp [Mi.pick]
  | b :: io, [], σ', k, pre, post, h, hk, e, l => by simp at h
  | b :: io, v :: vs, σ', k, pre, post, h, hk, e, l => by
    have hlt : k < σ'.length := by simp at l; omega
    have ed : σ'.drop k = σ'[k] :: σ'.drop (k + 1) := List.drop_eq_getElem_cons hlt
    have ih := pick_pin (io := io) (vs := vs) (σ' := σ') (k := k + 1) (pre := pre ++ [some v]) (post := post) (by simpa using h) (by simp [hk]) (fun i hi => by
      rw [e i (by cases b <;> simp [pinOf, hi])]
      simp) (by simp at l; omega)
    rw [ed]
    cases b with
    | false =>
      simp only [List.take_succ_cons, List.length_cons, Mi.pick]
      exact ih
    | true =>
      have e0 := e k (by simp [pinOf])
      rw [List.getElem?_eq_getElem hlt, List.getElem?_append_right (by omega), hk, Nat.sub_self] at e0
      have e1 : σ'[k] = some v := by simpa using e0
      simp only [List.take_succ_cons, List.length_cons, Mi.pick, List.map_cons, e1]
      rw [ih]
/-- a body keeps its mirror's promise -/
theorem body_M {P : Program} {w : World} {K : PySem.W.Frag} {mg : Str → Option Value} {base : Heap} {k : Nat} {qual : Str} {st : Stmt} {f : Addr} {Ns : List Str} {io : List Bool} {cls : String → Option Addr} {m : MS} {n : Nat}
    (hn : Ns.length = io.length + n)
    (h : ∀ (cdv : Value) (A : Around) (outer : List PySem.Env) (s : Shared) (H : Hp) (E : XK), Rm k (A.deeper (envOfC qual (defScope st) s.heap.objs.size f cdv)) →
      ∃ t, PSs (cxOf CX0 P w K mg base Ns qual (defScope st) f cdv A outer s H E).nox (defBody st) t ∧ RefS ⟨⟨K, cls, P, w⟩, none, pinOf io 0⟩ t m) :
    Body P w K mg base k qual st f Ns (spM ⟨K, cls, P, w⟩ false io (fnOf n io m)) := by
  intro cdv A outer s H vs Q E hr hs
  obtain ⟨t, ht, hm⟩ := h cdv A outer s H E hr
  refine ⟨t, ht, ?_⟩
  obtain ⟨ds, Z, F, hl, rl, o, hf⟩ := hs
  have hst : L2.start Ns vs = vs.map some ++ List.replicate n none := by
    unfold L2.start
    rw [hn, hl, Nat.add_sub_cancel_left]
  rw [hst]
  refine hm (ds.map some ++ List.replicate n none) _ Z H F _ o (RdE.ofL rl) ?_
  have fin : ∀ {env : Env} {σ' : L2.St} {Z' H' : Hp} {F' : List Addr} {ios : List D}, Pin (pinOf io 0) (vs.map some ++ List.replicate n none) σ' → RdE ⟨K, cls, P, w⟩ Z' H' env σ' F' → allS (pick io env) = some ios →
      ∃ F2, F2.Sublist F' ∧ RdL ⟨K, cls, P, w⟩ Z' H' ios (pick io vs) F2 := by
    intro env σ' Z' H' F' ios p r e
    have le : env.length = vs.length + n := by rw [r.length, p.1]; simp
    have l1 : io.length ≤ env.length := by rw [le]; omega
    refine RdE.pick r e l1 ?_ hl
    have := pick_pin (io := io) (vs := vs) (σ' := σ') (k := 0) (pre := []) (post := List.replicate n none) hl rfl (fun i hi => by simpa using p.2 i hi) (by rw [← r.length]; omega)
    simpa using this
  unfold fnOf at hf
  cases q : m (ds.map some ++ List.replicate n none) with
  | no => rw [q] at hf; exact hf.elim
  | ex x env =>
    rw [q] at hf
    cases e : allS (pick io env) with
    | none => simp only [e] at hf
    | some ios =>
      simp only [e] at hf
      exact absurd hf.1 Bool.false_ne_true
  | ok fl env =>
    rw [q] at hf
    cases fl with
    | bk => exact hf.elim
    | ct => exact hf.elim
    | nx =>
      intro σ' Z' H' F' p x r
      cases e : allS (pick io env) with
      | none => simp only [e] at hf
      | some ios =>
        simp only [e] at hf
        obtain ⟨F2, s2, r2⟩ := fin p r e
        exact hf .non Z' H' [] F2 (x.sub (s2.nodup x.ok.nd) fun a ha => s2.mem ha) rd_non r2
    | rt d =>
      intro σ' v Z' H' Fv F' p x rv r
      cases e : allS (pick io env) with
      | none => simp only [e] at hf
      | some ios =>
        simp only [e] at hf
        obtain ⟨F2, s2, r2⟩ := fin p r e
        refine hf v Z' H' Fv F2 (x.sub (List.nodup_append.mpr ⟨nodup_left x.ok.nd, s2.nodup (nodup_right x.ok.nd), fun a ha b hb e => ?_⟩) fun a ha => ?_) rv r2
        · subst e
          exact x.ok.disj a ha (s2.mem hb)
        · rcases List.mem_append.mp ha with z | z
          · exact List.mem_append_left _ z
          · exact List.mem_append_right _ (s2.mem z)

/-! ### calls -/
/-- an argument: a value, or a name whose owned value the callee may change -/
inductive Arg where
  | e (m : ME)
  | io (j : Nat)
def eArgs : List Arg → Env → R (List (Option D))
  | [], env => .ok [] env
  | .e m :: as, env => (m env).bind fun d e => (eArgs as e).bind fun r e => .ok (some d :: r) e
  | .io j :: as, env => match env[j]? with
    | some (some _) => (eArgs as env).bind fun r e => .ok (none :: r) e
    | _ => .no
def RdM (C : Ct) (Z H : Hp) (σ : L2.St) : List Arg → List (Option D) → List V → List Addr → Prop
  | [], ms, vs, F => ms = [] ∧ vs = [] ∧ F = []
  | .e _ :: as, ms, vs, F => ∃ d r v s F1 F2, ms = some d :: r ∧ vs = v :: s ∧ F = F1 ++ F2 ∧ RdV C Z H d v F1 ∧ RdM C Z H σ as r s F2
  | .io j :: as, ms, vs, F => ∃ r v s, ms = none :: r ∧ vs = v :: s ∧ σ[j]? = some (some v) ∧ RdM C Z H σ as r s F
def RefM (N : Cn) (st : Bool) (t : TA) (as : List Arg) : Prop := ∀ env σ Z H F Q, Ok Z H F → RdE N.C Z H env σ F →
  Wp N σ Z H F (eArgs as env) (fun ms env' => ∀ vs Z' H' Fv F', Ext Z H F Z' H' (Fv ++ F') → RdM N.C Z' H' σ as ms vs Fv → RdE N.C Z' H' env' σ F' → (st = true → Same H H') → Q vs H') → t σ H Q
theorem RdM.heldM {as : List Arg} : ∀ {ms : List (Option D)} {vs : List V} {G : List Addr}, Ext Z H F Z' H' F' → (∀ a ∈ G, a ∉ F) → RdM C Z H σ as ms vs G → RdM C Z' H' σ as ms vs G := by
  induction as with
  | nil => intro ms vs G x hd h; exact h
  | cons a as ih =>
    intro ms vs G x hd h
    cases a with
    | e m =>
      obtain ⟨d, r, v, s, F1, F2, h1, h2, rfl, h4, h5⟩ := h
      exact ⟨d, r, v, s, F1, F2, h1, h2, rfl, x.held (fun a ha => hd a (List.mem_append_left _ ha)) h4, ih x (fun a ha => hd a (List.mem_append_right _ ha)) h5⟩
    | io j =>
      obtain ⟨r, v, s, h1, h2, h3, h4⟩ := h
      exact ⟨r, v, s, h1, h2, h3, ih x hd h4⟩
theorem rm_nil : RefM N true tNil [] := fun env σ Z H F Q o r w => w [] Z H [] F (Ext.refl o) ⟨rfl, rfl, rfl⟩ r (fun _ => Same.refl _)
theorem rm_e {s1 s2 : Bool} {t : TE} {u : TA} {m : ME} {as : List Arg} (h : RefE N s1 t m) (hs : RefM N s2 u as) : RefM N (s1 && s2) (tCons t u) (.e m :: as) := fun env σ Z H F Q o r w => by
  refine h env σ Z H F _ o r (w.bind.mono (Pin.refl _ _) (Ext.refl o) ?_)
  intro d env1 k v Z1 H1 Fv F1 x1 rv r1 sm1
  have o1 : Ok Z1 H1 F1 := x1.ok.split
  refine hs env1 σ Z1 H1 F1 _ o1 r1 ((Wp.bind (k.mono (Pin.refl _ _) x1.right fun _ _ z => z)).mono (Pin.refl _ _) (Ext.refl o1) ?_)
  intro ds env2 k2 vs Z2 H2 Fvs F2 x2 rvs r2 sm2
  have y := x2.hold x1.ok
  refine k2 (v :: vs) Z2 H2 (Fv ++ Fvs) F2 ?_ ?_ r2 (fun z => ?_)
  · rw [List.append_assoc]; exact x1.trans y
  · exact ⟨d, ds, v, vs, Fv, Fvs, rfl, rfl, rfl, x2.held (x1.ok.disj) rv, rvs⟩
  · rw [Bool.and_eq_true] at z; exact (sm1 z.1).trans (sm2 z.2)
theorem rm_io {s2 : Bool} {j : Nat} {u : TA} {as : List Arg} (hs : RefM N s2 u as) : RefM N s2 (tCons (tVar j) u) (.io j :: as) := fun env σ Z H F Q o r w => by
  rw [eArgs] at w
  split at w
  · rename_i d e
    obtain ⟨v, F1, F2, h1, h2, h3, h4⟩ := r.take e
    refine ⟨v, h1, hs env σ Z H F _ o r (w.bind.mono (Pin.refl _ _) (Ext.refl o) ?_)⟩
    intro ds env2 k2 vs Z2 H2 Fvs F2 x2 rvs r2 sm2
    exact k2 (v :: vs) Z2 H2 Fvs F2 x2 ⟨ds, v, vs, rfl, rfl, h1, rvs⟩ r2 sm2
  · exact w.elim
/-- the arguments, the names taken out -/
def fillA : List Arg → List (Option D) → Env → Option (List D × Env)
  | [], _, env => some ([], env)
  | .e _ :: as, some d :: ms, env => (fillA as ms env).map fun r => (d :: r.1, r.2)
  | .io j :: as, _ :: ms, env => match env[j]? with
    | some (some d) => (fillA as ms (env.set j none)).map fun r => (d :: r.1, r.2)
    | _ => none
  | _, _, _ => none
/-- .. and given back -/
def backA : List Arg → List D → Env → Option Env
  | [], [], env => some env
  | .e _ :: as, ios, env => backA as ios env
  | .io j :: as, d :: ios, env => backA as ios (env.set j (some d))
  | _, _, _ => none
def ioOf : List Arg → List Bool
  | [] => []
  | .e _ :: as => false :: ioOf as
  | .io _ :: as => true :: ioOf as
theorem fillA_ok : ∀ {as : List Arg} {ms : List (Option D)} {vs : List V} {env env2 : Env} {ds : List D} {Fv F : List Addr}, RdM C Z H σ as ms vs Fv → RdE C Z H env σ F → fillA as ms env = some (ds, env2) →
    ∃ Fa Fr, RdL C Z H ds vs Fa ∧ RdE C Z H env2 σ Fr ∧ (Fv ++ F).Perm (Fa ++ Fr)
  | [], ms, vs, env, env2, ds, Fv, F, h, r, e => by
    obtain ⟨rfl, rfl, rfl⟩ := h
    cases e
    exact ⟨[], F, ⟨rfl, rfl⟩, r, List.Perm.refl _⟩
  | .e m :: as, ms, vs, env, env2, ds, Fv, F, h, r, e => by
    obtain ⟨d, ms', v, s, F1, F2, rfl, rfl, rfl, rv, h⟩ := h
    rw [fillA, Option.map_eq_some_iff] at e
    obtain ⟨⟨ds', env'⟩, e, q⟩ := e
    cases q
    obtain ⟨Fa, Fr, h1, h2, h3⟩ := fillA_ok h r e
    refine ⟨F1 ++ Fa, Fr, ⟨v, s, F1, Fa, rfl, rfl, rv, h1⟩, h2, ?_⟩
    rw [List.append_assoc, List.append_assoc]
    exact List.Perm.append_left F1 h3
  | .io j :: as, ms, vs, env, env2, ds, Fv, F, h, r, e => by
    obtain ⟨ms', v, s, rfl, rfl, hv, h⟩ := h
    rw [fillA] at e
    split at e
    · rename_i d ed
      obtain ⟨v', G1, G2, g1, g2, g3, g4⟩ := r.take ed
      rw [hv] at g1
      cases g1
      rw [Option.map_eq_some_iff] at e
      obtain ⟨⟨ds', env'⟩, e, q⟩ := e
      cases q
      obtain ⟨Fa, Fr, h1, h2, h3⟩ := fillA_ok h g4 e
      refine ⟨G1 ++ Fa, Fr, ⟨v, s, G1, Fa, rfl, rfl, g2, h1⟩, h2, ?_⟩
      refine (List.Perm.append_left Fv g3).trans ?_
      rw [← List.append_assoc, List.append_assoc G1]
      refine (List.Perm.append_right G2 List.perm_append_comm).trans ?_
      rw [List.append_assoc]
      exact List.Perm.append_left G1 h3
    · cases e
theorem set_same {env : Env} {j : Nat} {v : V} (h : σ[j]? = some (some v)) : σ.set j (some v) = σ := by
  refine List.ext_getElem? fun i => ?_
  rw [List.getElem?_set]
  by_cases q : j = i
  · subst q
    rw [if_pos rfl, h]
    rcases Nat.lt_or_ge j σ.length with z | z
    · rw [if_pos z]
    · rw [List.getElem?_eq_none z] at h; cases h
  · rw [if_neg q]
theorem backA_ok : ∀ {as : List Arg} {ms : List (Option D)} {vs : List V} {env env2 : Env} {ios : List D} {Fv F Fi : List Addr} {Z0 H0 : Hp}, RdM C Z0 H0 σ as ms vs Fv → Ok Z H (Fi ++ F) → RdE C Z H env σ F → RdL C Z H ios (pick (ioOf as) vs) Fi → backA as ios env = some env2 →
    ∃ F2, F2.Nodup ∧ (∀ a ∈ F2, a ∈ Fi ++ F) ∧ RdE C Z H env2 σ F2
  | [], ms, vs, env, env2, ios, Fv, F, Fi, Z0, H0, h, o, r, rl, e => by
    cases ios with
    | nil =>
      cases e
      exact ⟨F, nodup_right o.nd, fun a ha => List.mem_append_right _ ha, r⟩
    | cons => cases e
  | .e m :: as, ms, vs, env, env2, ios, Fv, F, Fi, Z0, H0, h, o, r, rl, e => by
    obtain ⟨d, ms', v, s, F1, F2, rfl, rfl, rfl, rv, h⟩ := h
    exact backA_ok h o r (by simpa [ioOf, pick] using rl) (by simpa [backA] using e)
  | .io j :: as, ms, vs, env, env2, ios, Fv, F, Fi, Z0, H0, h, o, r, rl, e => by
    obtain ⟨ms', v, s, rfl, rfl, hv, h⟩ := h
    cases ios with
    | nil => cases e
    | cons d ios =>
      rw [ioOf, pick, RdL] at rl
      obtain ⟨v', s', G1, G2, hh, rfl, rv, rl⟩ := rl
      cases hh
      have o1 : Ok Z H (G1 ++ F) := o.sub (by
        refine List.nodup_append.mpr ⟨nodup_left (nodup_left o.nd), nodup_right o.nd, fun a ha b hb z => ?_⟩
        subst z
        exact o.disj a (List.mem_append_left _ ha) hb) fun a ha => by
          rcases List.mem_append.mp ha with z | z
          · exact List.mem_append_left _ (List.mem_append_left _ z)
          · exact List.mem_append_right _ z
      obtain ⟨F3, h1, h2, h3⟩ := rd_set (i := j) o1 r rv
      rw [set_same (env := env) hv] at h3
      have o2 : Ok Z H (G2 ++ F3) := o.sub (by
        refine List.nodup_append.mpr ⟨nodup_right (nodup_left o.nd), h1, fun a ha b hb z => ?_⟩
        subst z
        rcases List.mem_append.mp (h2 a hb) with z | z
        · exact (List.nodup_append.mp (nodup_left o.nd)).2.2 a z a ha rfl
        · exact o.disj a (List.mem_append_right _ ha) z) fun a ha => by
          rcases List.mem_append.mp ha with z | z
          · exact List.mem_append_left _ (List.mem_append_right _ z)
          · rcases List.mem_append.mp (h2 a z) with z | z
            · exact List.mem_append_left _ (List.mem_append_left _ z)
            · exact List.mem_append_right _ z
      obtain ⟨F4, g1, g2, g3⟩ := backA_ok h o2 h3 rl (by simpa [backA] using e)
      refine ⟨F4, g1, fun a ha => ?_, g3⟩
      rcases List.mem_append.mp (g2 a ha) with z | z
      · exact List.mem_append_left _ (List.mem_append_right _ z)
      · rcases List.mem_append.mp (h2 a z) with z | z
        · exact List.mem_append_left _ (List.mem_append_left _ z)
        · exact List.mem_append_right _ z
/-- the call itself, the arguments reckoned -/
def callF (f : Fun) (as : List Arg) (ms : List (Option D)) (env : Env) : R D := match fillA as ms env with
  | none => .no
  | some (ds, e2) => match f ds with
    | .ok d ios => (match backA as ios e2 with | some e3 => .ok d e3 | none => .no)
    | .ex x ios => (match backA as ios e2 with | some e3 => .ex x e3 | none => .no)
    | .no => .no
def eCall (f : Fun) (as : List Arg) : ME := fun env => (eArgs as env).bind fun ms e => callF f as ms e
def WE' (N : Cn) (xc : Bool) (σ : L2.St) (E : XK) : Prop := match N.px with
  | none => True
  | some W => xc = true ∧ ∀ cls d H, W cls d σ H → E cls d H
theorem RdM.vlen : ∀ {as : List Arg} {ms : List (Option D)} {vs : List V} {Fv : List Addr}, RdM C Z H σ as ms vs Fv → vs.length = (ioOf as).length
  | [], _, _, _, h => by rw [h.2.1]; rfl
  | .e m :: as, _, _, _, h => by
    obtain ⟨d, ms', v, s, F1, F2, rfl, rfl, rfl, rv, h⟩ := h
    simp [ioOf, h.vlen]
  | .io j :: as, _, _, _, h => by
    obtain ⟨ms', v, s, rfl, rfl, hv, h⟩ := h
    simp [ioOf, h.vlen]
theorem call_core {f : Fun} {as : List Arg} {ms : List (Option D)} {vs : List V} {env : Env} {Q : VK} {E : XK} {Z0 H0 : Hp} {F0 : List Addr} {xc : Bool} (hx : WE' N xc σ E) (x : Ext Z0 H0 F0 Z H (Fv ++ F)) (rm : RdM N.C Z H σ as ms vs Fv) (r : RdE N.C Z H env σ F)
    (w : Wp N σ Z0 H0 F0 (callF f as ms env) (fun d env' => ∀ v Z' H' Fv F', Ext Z0 H0 F0 Z' H' (Fv ++ F') → RdV N.C Z' H' d v Fv → RdE N.C Z' H' env' σ F' → (false = true → Same H0 H') → Q v H')) :
    spM N.C xc (ioOf as) f vs H Q E := by
  unfold callF at w
  cases hf : fillA as ms env with
  | none => rw [hf] at w; exact w.elim
  | some p =>
  obtain ⟨ds, e2⟩ := p
  rw [hf] at w
  obtain ⟨Fa, Fr, ra, rr, pm⟩ := fillA_ok rm r hf
  have o1 : Ok Z H (Fa ++ Fr) := x.ok.sub (pm.nodup_iff.mp x.ok.nd) (perm_mem pm)
  have oa : Ok Z H Fa := o1.sub (nodup_left o1.nd) fun a ha => List.mem_append_left _ ha
  have x0 : Ext Z0 H0 F0 Z H (Fa ++ Fr) := x.sub o1.nd (perm_mem pm)
  refine ⟨ds, Z, Fa, rm.vlen, ra, oa, ?_⟩
  have w : Wp N σ Z0 H0 F0 (match f ds with
    | .ok d ios => (match backA as ios e2 with | some e3 => R.ok d e3 | none => .no)
    | .ex x ios => (match backA as ios e2 with | some e3 => .ex x e3 | none => .no)
    | .no => .no) _ := w
  cases hfd : f ds with
  | no => rw [hfd] at w; exact w.elim
  | ok d ios =>
    rw [hfd] at w
    simp only at w ⊢
    cases hb : backA as ios e2 with
    | none => rw [hb] at w; exact w.elim
    | some e3 =>
      rw [hb] at w
      intro v Z' H' Fv' Fi x2 rv ri
      have y := x2.frame o1
      have rr' : RdE N.C Z' H' e2 σ Fr := x2.heldE (fun a ha z => o1.disj a z ha) rr
      have o2 : Ok Z' H' (Fi ++ Fr) := y.ok.sub (by have := y.ok.nd; rw [List.append_assoc] at this; exact nodup_right this) fun a ha => by
        rw [List.append_assoc]; exact List.mem_append_right _ ha
      obtain ⟨F4, g1, g2, g3⟩ := backA_ok rm o2 rr' ri hb
      refine w v Z' H' Fv' F4 ((x0.trans y).sub ?_ ?_) rv g3 fun z => ?_
      · refine List.nodup_append.mpr ⟨?_, g1, fun a ha b hb z => ?_⟩
        · have := y.ok.nd; rw [List.append_assoc] at this; exact nodup_left this
        · subst z
          have := y.ok.nd
          rw [List.append_assoc] at this
          exact (List.nodup_append.mp this).2.2 a ha a (g2 a hb) rfl
      · intro a ha
        rw [List.append_assoc]
        rcases List.mem_append.mp ha with z | z
        · exact List.mem_append_left _ z
        · exact List.mem_append_right _ (g2 a z)
      · cases z
  | ex xx ios =>
    rw [hfd] at w
    simp only at w ⊢
    cases hb : backA as ios e2 with
    | none => rw [hb] at w; exact w.elim
    | some e3 =>
      rw [hb] at w
      refine ⟨?_, ?_⟩
      · have w : Wish N σ Z0 H0 F0 xx e3 := w
        unfold Wish at w
        unfold WE' at hx
        cases hp : N.px with
        | none => rw [hp] at w; exact w.elim
        | some W => rw [hp] at hx; exact hx.1
      intro a Ca Z' H' Fi us x2 hc ha hu ri
      have y := x2.frame o1
      have rr' : RdE N.C Z' H' e2 σ Fr := x2.heldE (fun a ha z => o1.disj a z ha) rr
      obtain ⟨F4, g1, g2, g3⟩ := backA_ok rm y.ok rr' ri hb
      have w : Wish N σ Z0 H0 F0 xx e3 := w
      unfold Wish at w
      unfold WE' at hx
      cases hp : N.px with
      | none => rw [hp] at w; exact w.elim
      | some W =>
        rw [hp] at w hx
        exact hx.2 _ _ _ (w σ a Ca Z' H' F4 us (Pin.refl _ _) ((x0.trans y).sub g1 g2) g3 hc ha hu)

theorem re_call {st xc : Bool} {f : Fun} {as : List Arg} {t : TA} {E : XK} {io : List Bool} (h : RefM N st t as) (hio : ioOf as = io) (hx : ∀ σ, WE' N xc σ E) : RefE N false (tCall (spM N.C xc io f) [] E t) (eCall f as) := fun env σ Z H F Q o r w => by
  subst hio
  refine h env σ Z H F _ o r (w.bind.mono (Pin.refl _ _) (Ext.refl o) ?_)
  intro ms env1 k vs Z1 H1 Fv F1 x rm r1 _
  rw [List.append_nil]
  exact call_core (hx σ) x rm r1 k
theorem we0 {C : Ct} {pin : List Nat} {xc : Bool} {E : XK} : ∀ σ, WE' ⟨C, none, pin⟩ xc σ E := fun _ => trivial
theorem we0c {N : Cn} {xc : Bool} {E : XK} : ∀ σ, WE' N.calm xc σ E := fun _ => trivial
/-! ### methods -/
/-- an instance of c, m none of its fields -/
def recv (c m : String) : D → Bool
  | .ins _ c' fs => c' == c && fs.all fun p => !(p.1 == m)
  | _ => false
def eMeth (c m : String) (f : Fun) (a : Arg) (as : List Arg) : ME := fun env => match a with
  | .e me => (me env).bind fun d e => if recv c m d then (eArgs as e).bind fun ms e => callF f (a :: as) (some d :: ms) e else .no
  | .io j => match env[j]? with
    | some (some d) => if recv c m d then (eArgs as env).bind fun ms e => callF f (a :: as) (none :: ms) e else .no
    | _ => .no
theorem ofString_inj {a b : String} (h : PySem.Str.ofString a = PySem.Str.ofString b) : a = b := by
  rw [PySem.Str.ofString_eq_toList, PySem.Str.ofString_eq_toList] at h
  have h := congrArg PySem.Str.cps h
  have h : (a.toList.map Char.toNat).toArray = (b.toList.map Char.toNat).toArray := h
  have h : a.toList.map Char.toNat = b.toList.map Char.toNat := by simpa using h
  have h : a.toList = b.toList := by
    refine List.map_inj_right (f := Char.toNat) ?_ |>.mp h
    intro x y e
    exact Char.ext (UInt32.toNat_inj.mp e)
  exact String.toList_inj.mp h
theorem RdF.none : ∀ {fs : List (String × D)} {us : List (Str × V)} {F : List Addr} {m : String}, RdF C Z H fs us F → (fs.all fun p => !(p.1 == m)) = true → us.lookup (PySem.Str.ofString m) = none
  | [], us, F, m, h, _ => by rw [RdF] at h; rw [h.1]; rfl
  | (k, d) :: fs, us, F, m, h, e => by
    rw [RdF] at h
    obtain ⟨v, s, F1, F2, rfl, rfl, _, h⟩ := h
    rw [List.all_cons, Bool.and_eq_true] at e
    have hk : (PySem.Str.ofString m == PySem.Str.ofString k) = false := beq_eq_false_iff_ne.mpr fun z => by
      have := ofString_inj z
      subst this
      simp at e
    rw [List.lookup, hk]
    exact RdF.none h e.2
theorem RdF.get : ∀ {fs : List (String × D)} {us : List (Str × V)} {F : List Addr} {f : String} {d : D}, RdF C Z H fs us F → fs.lookup f = some d → ∃ v F1 F2, us.lookup (PySem.Str.ofString f) = some v ∧ RdV C Z H d v F1 ∧ F.Perm (F1 ++ F2)
  | [], us, F, m, d, h, e => by cases e
  | (k, d0) :: fs, us, F, f, d, h, e => by
    rw [RdF] at h
    obtain ⟨v, s, F1, F2, rfl, rfl, rv, h⟩ := h
    rw [List.lookup] at e
    by_cases q : f = k
    · subst q
      rw [beq_self_eq_true] at e
      cases e
      exact ⟨v, F1, F2, by rw [List.lookup, beq_self_eq_true], rv, List.Perm.refl _⟩
    · have q1 : (f == k) = false := beq_eq_false_iff_ne.mpr q
      rw [q1] at e
      obtain ⟨v', G1, G2, h1, h2, h3⟩ := RdF.get h e
      have q2 : (PySem.Str.ofString f == PySem.Str.ofString k) = false := beq_eq_false_iff_ne.mpr fun z => q (ofString_inj z)
      refine ⟨v', G1, F1 ++ G2, by rw [List.lookup, q2]; exact h1, h2, ?_⟩
      refine (List.Perm.append_left F1 h3).trans ?_
      rw [← List.append_assoc, ← List.append_assoc]
      exact List.Perm.append_right G2 List.perm_append_comm
/-- an instance, wherever it stands -/
theorem RdV.inst {o : Bool} {c : String} {fs : List (String × D)} {v : V} (ok : Same Z H) (h : RdV C Z H (.ins o c fs) v F) : ∃ a Ca dx us G, v = .ref a ∧ C.cls c = some Ca ∧ H a = some (.ins Ca dx us) ∧ RdF C Z H fs us G := by
  cases o with
  | false =>
    rw [RdV] at h
    obtain ⟨_, a, Ca, dx, us, h1, h2, h3, h4⟩ := h
    exact ⟨a, Ca, dx, us, [], h1, h2, ok _ _ h3, h4⟩
  | true =>
    rw [RdV] at h
    obtain ⟨a, Ca, dx, us, G, h1, h2, h3, _, h4⟩ := h
    exact ⟨a, Ca, dx, us, G, h1, h2, h3, h4⟩
theorem recv_ok {c m : String} {d : D} {v : V} {Ca : Addr} (hc : C.cls c = some Ca) (ok : Same Z H) (r : RdV C Z H d v F) (e : recv c m d = true) : ∃ a dx us, v = .ref a ∧ H a = some (.ins Ca dx us) ∧ us.lookup (PySem.Str.ofString m) = none := by
  cases d with
  | ins o c' fs =>
    rw [recv, Bool.and_eq_true] at e
    obtain ⟨a, Cb, dx, us, G, h1, h2, h3, h4⟩ := r.inst ok
    have : c' = c := by simpa using e.1
    subst this
    rw [hc] at h2
    cases h2
    exact ⟨a, dx, us, h1, h3, h4.none e.2⟩
  | _ => cases e
theorem re_methE {st st2 xc : Bool} {c m : String} {f : Fun} {me : ME} {as : List Arg} {t : TA} {ta : TE} {E : XK} {io : List Bool} {Ca : Addr} (hc : N.C.cls c = some Ca) (hr : RefE N st2 ta me) (h : RefM N st t as) (hio : false :: ioOf as = io) (hx : ∀ σ, WE' N xc σ E) :
    RefE N false (tMeth Ca (PySem.Str.ofString m) (spM N.C xc io f) [] E ta t) (eMeth c m f (.e me) as) := fun env σ Z H F Q o r w => by
  subst hio
  have w : Wp N σ Z H F ((me env).bind fun d e => if recv c m d then (eArgs as e).bind fun ms e => callF f (.e me :: as) (some d :: ms) e else .no) _ := w
  refine hr env σ Z H F _ o r (w.bind.mono (Pin.refl _ _) (Ext.refl o) ?_)
  intro d env1 k v Z1 H1 Fd F1 x1 rd r1 _
  by_cases q : recv c m d = true
  · rw [if_pos q] at k
    obtain ⟨a, dx, us, h1, h2, h3⟩ := recv_ok hc x1.ok.zh rd q
    refine ⟨a, dx, us, h1, h2, h3, ?_⟩
    have o1 := x1.ok.split
    refine h env1 σ Z1 H1 F1 _ o1 r1 ((Wp.bind k).mono (Pin.refl _ _) x1.right ?_)
    intro ms env2 k2 vs Z2 H2 Fvs F2 x2 rm r2 _
    rw [List.append_nil]
    have y := x2.hold x1.ok
    exact call_core (as := .e me :: as) (ms := some d :: ms) (vs := v :: vs) (Fv := Fd ++ Fvs) (hx σ) (by rw [List.append_assoc]; exact x1.trans y) ⟨d, ms, v, vs, Fd, Fvs, rfl, rfl, rfl, x2.held x1.ok.disj rd, rm⟩ r2 k2
  · rw [if_neg q] at k; exact k.elim

theorem re_methI {st xc : Bool} {c m : String} {f : Fun} {j : Nat} {as : List Arg} {t : TA} {E : XK} {io : List Bool} {Ca : Addr} (hc : N.C.cls c = some Ca) (h : RefM N st t as) (hio : true :: ioOf as = io) (hx : ∀ σ, WE' N xc σ E) :
    RefE N false (tMeth Ca (PySem.Str.ofString m) (spM N.C xc io f) [] E (tVar j) t) (eMeth c m f (.io j) as) := fun env σ Z H F Q o r w => by
  subst hio
  rw [eMeth] at w
  split at w
  · rename_i d e
    by_cases q : recv c m d = true
    · rw [if_pos q] at w
      obtain ⟨v, F1, F2, h1, h2, h3, h4⟩ := r.take e
      obtain ⟨a, dx, us, g1, g2, g3⟩ := recv_ok hc o.zh h2 q
      refine ⟨v, h1, a, dx, us, g1, g2, g3, ?_⟩
      refine h env σ Z H F _ o r (w.bind.mono (Pin.refl _ _) (Ext.refl o) ?_)
      intro ms env2 k2 vs Z2 H2 Fvs F2 x2 rm r2 _
      rw [List.append_nil]
      exact call_core (as := .io j :: as) (ms := none :: ms) (vs := v :: vs) (hx σ) x2 ⟨ms, v, vs, rfl, rfl, h1, rm⟩ r2 k2
    · rw [if_neg q] at w; exact w.elim
  · exact w.elim
/-! ### a new instance -/
def callN (c : String) (f : Fun) (as : List Arg) (ms : List (Option D)) (env : Env) : R D := match fillA as ms env with
  | none => .no
  | some (ds, e2) => match f (.ins true c [] :: ds) with
    | .ok .non (self :: ios) => (match backA as ios e2 with | some e3 => .ok self e3 | none => .no)
    | .ex x (_ :: ios) => (match backA as ios e2 with | some e3 => .ex x e3 | none => .no)
    | _ => .no
def eNew (c : String) (f : Fun) (as : List Arg) : ME := fun env => (eArgs as env).bind fun ms e => callN c f as ms e
theorem re_new {st xc : Bool} {c : String} {f : Fun} {as : List Arg} {t : TA} {E : XK} {io : List Bool} {Ca : Addr} (hc : N.C.cls c = some Ca) (h : RefM N st t as) (hio : true :: ioOf as = io) (hx : ∀ σ, WE' N xc σ E) :
    RefE N false (tMake Ca (spM N.C xc io f) [] E t) (eNew c f as) := fun env σ Z H F Q o r w => by
  subst hio
  refine h env σ Z H F _ o r (w.bind.mono (Pin.refl _ _) (Ext.refl o) ?_)
  intro ms env1 k vs Z1 H1 Fv F1 x rm r1 _
  intro p dx hp hdx hne
  rw [List.append_nil]
  unfold callN at k
  cases hf : fillA as ms env1 with
  | none => rw [hf] at k; exact k.elim
  | some pp =>
  obtain ⟨ds, e2⟩ := pp
  rw [hf] at k
  obtain ⟨Fa, Fr, ra, rr, pm⟩ := fillA_ok rm r1 hf
  have o1 : Ok Z1 H1 (Fa ++ Fr) := x.ok.sub (pm.nodup_iff.mp x.ok.nd) (perm_mem pm)
  have x0 : Ext Z H F Z1 H1 (Fa ++ Fr) := x.sub o1.nd (perm_mem pm)
  have y1 := Ext.junk (o := .own p) o1 hdx
  have hp2 : (upd H1 dx (.own p)) p = none := by rw [upd_ne (Ne.symm hne)]; exact hp
  have y2 := Ext.new (o := .ins Ca dx []) y1.ok hp2
  have y := y1.trans y2
  have sm : Same H1 (upd (upd H1 dx (.own p)) p (.ins Ca dx [])) := (same_new hdx).trans (same_new hp2)
  generalize hH2 : upd (upd H1 dx (.own p)) p (.ins Ca dx []) = H2 at y sm
  have hpH : H2 p = some (.ins Ca dx []) := by rw [← hH2, upd_same]
  have ra2 : RdL N.C Z1 H2 (.ins true c [] :: ds) (.ref p :: vs) (p :: Fa) := by
    rw [RdL]
    refine ⟨.ref p, vs, [p], Fa, rfl, rfl, ?_, ra.same (Same.refl _) sm⟩
    rw [RdV]
    exact ⟨p, Ca, dx, [], [], rfl, hc, hpH, rfl, by rw [RdF]; exact ⟨rfl, rfl⟩⟩
  have rr2 : RdE N.C Z1 H2 e2 σ Fr := rr.same (Same.refl _) sm
  have o2 : Ok Z1 H2 ((p :: Fa) ++ Fr) := y.ok
  have x1 : Ext Z H F Z1 H2 ((p :: Fa) ++ Fr) := x0.trans y
  refine ⟨.ins true c [] :: ds, Z1, p :: Fa, by simp [rm.vlen], ra2, o2.sub (nodup_left o2.nd) fun a ha => List.mem_append_left _ ha, ?_⟩
  have k : Wp N σ Z H F (match f (.ins true c [] :: ds) with
    | .ok .non (self :: ios) => (match backA as ios e2 with | some e3 => R.ok self e3 | none => .no)
    | .ex x (_ :: ios) => (match backA as ios e2 with | some e3 => .ex x e3 | none => .no)
    | _ => .no) _ := k
  cases hfd : f (.ins true c [] :: ds) with
  | no => rw [hfd] at k; exact k.elim
  | ok d ios =>
    rw [hfd] at k
    have hd : d = .non := by cases d <;> first | rfl | exact k.elim
    subst hd
    cases ios with
    | nil => exact k.elim
    | cons self ios =>
      simp only at k ⊢
      cases hb : backA as ios e2 with
      | none => rw [hb] at k; exact k.elim
      | some e3 =>
        rw [hb] at k
        intro v Z' H' Fv' Fi x2 rv ri
        rw [RdV] at rv
        obtain ⟨rfl, rfl⟩ := rv
        refine ⟨rfl, ?_⟩
        rw [pick, RdL] at ri
        obtain ⟨v', s', G1, G2, hh, rfl, rs, ri⟩ := ri
        cases hh
        have yy := x2.frame o2
        simp only [List.nil_append] at yy
        have rr' : RdE N.C Z' H' e2 σ Fr := x2.heldE (fun a ha z => o2.disj a z ha) rr2
        have o3 : Ok Z' H' (G2 ++ Fr) := yy.ok.sub (by have := yy.ok.nd; rw [List.append_assoc] at this; exact nodup_right this) fun a ha => by
          rw [List.append_assoc]; exact List.mem_append_right _ ha
        obtain ⟨F4, g1, g2, g3⟩ := backA_ok rm o3 rr' ri hb
        refine k (.ref p) Z' H' G1 F4 ((x1.trans yy).sub ?_ ?_) rs g3 fun z => by cases z
        · refine List.nodup_append.mpr ⟨?_, g1, fun a ha b hb z => ?_⟩
          · have := yy.ok.nd; rw [List.append_assoc] at this; exact nodup_left this
          · subst z
            have := yy.ok.nd
            rw [List.append_assoc] at this
            exact (List.nodup_append.mp this).2.2 a ha a (g2 a hb) rfl
        · intro a ha
          rw [List.append_assoc]
          rcases List.mem_append.mp ha with z | z
          · exact List.mem_append_left _ z
          · exact List.mem_append_right _ (g2 a z)
  | ex xx ios =>
    rw [hfd] at k
    cases ios with
    | nil => exact k.elim
    | cons self ios =>
      simp only at k ⊢
      cases hb : backA as ios e2 with
      | none => rw [hb] at k; exact k.elim
      | some e3 =>
        rw [hb] at k
        have k : Wish N σ Z H F xx e3 := k
        unfold Wish at k
        have hx := hx σ
        unfold WE' at hx
        cases hpx : N.px with
        | none => rw [hpx] at k; exact k.elim
        | some W =>
          rw [hpx] at k hx
          refine ⟨hx.1, ?_⟩
          intro a Cb Z' H' Fi us x2 hcb ha hu ri
          rw [pick, RdL] at ri
          obtain ⟨v', s', G1, G2, hh, rfl, rs, ri⟩ := ri
          cases hh
          have yy := x2.frame o2
          have rr' : RdE N.C Z' H' e2 σ Fr := x2.heldE (fun a ha z => o2.disj a z ha) rr2
          have o3 : Ok Z' H' (G2 ++ Fr) := yy.ok.sub (by have := yy.ok.nd; rw [List.append_assoc] at this; exact nodup_right this) fun a ha => by
            rw [List.append_assoc]; exact List.mem_append_right _ ha
          obtain ⟨F4, g1, g2, g3⟩ := backA_ok rm o3 rr' ri hb
          refine hx.2 _ _ _ (k σ a Cb Z' H' F4 us (Pin.refl _ _) ((x1.trans yy).sub g1 fun a ha => ?_) g3 hcb ha hu)
          rw [List.append_assoc]; exact List.mem_append_right _ (g2 a ha)
end
end Mi

set_option maxHeartbeats 4000000
namespace Mi
open PySem PySem.Spec PyProof.Rows L2 RZ Ov

section
variable {N : Cn} {C : Ct} {Z H Z' H' : Hp} {F F' G Fv : List Addr} {σ : L2.St}
/-! ### lists of frozen things -/
theorem RdL.cons0 {d : D} {ds : List D} {v : V} {vs : List V} (h : RdV C Z H d v []) (t : RdL C Z H ds vs []) : RdL C Z H (d :: ds) (v :: vs) [] := by
  rw [RdL]; exact ⟨v, vs, [], [], rfl, rfl, h, t⟩
theorem RdL.nil0 : RdL C Z H [] [] [] := by rw [RdL]; exact ⟨rfl, rfl⟩
theorem RdL.inv0 {d : D} {ds : List D} {vs : List V} (h : RdL C Z H (d :: ds) vs []) : ∃ v r, vs = v :: r ∧ RdV C Z H d v [] ∧ RdL C Z H ds r [] := by
  rw [RdL] at h
  obtain ⟨v, r, F1, F2, h1, h2, h3, h4⟩ := h
  obtain ⟨rfl, rfl⟩ : F1 = [] ∧ F2 = [] := by simpa using h2.symm
  exact ⟨v, r, h1, h3, h4⟩
theorem RdL.app0 : ∀ {ds es : List D} {vs us : List V}, RdL C Z H ds vs [] → RdL C Z H es us [] → RdL C Z H (ds ++ es) (vs ++ us) []
  | [], es, vs, us, h, h2 => by rw [RdL] at h; rw [h.1]; exact h2
  | d :: ds, es, vs, us, h, h2 => by
    obtain ⟨v, r, rfl, h3, h4⟩ := h.inv0
    exact RdL.cons0 h3 (RdL.app0 h4 h2)
theorem RdL.drop0 : ∀ {ds : List D} {vs : List V} (n : Nat), RdL C Z H ds vs [] → RdL C Z H (ds.drop n) (vs.drop n) []
  | ds, vs, 0, h => h
  | [], vs, n + 1, h => by rw [RdL] at h; rw [h.1]; exact RdL.nil0
  | d :: ds, vs, n + 1, h => by
    obtain ⟨v, r, rfl, h3, h4⟩ := h.inv0
    exact RdL.drop0 n h4
theorem RdL.take0 : ∀ {ds : List D} {vs : List V} (n : Nat), RdL C Z H ds vs [] → RdL C Z H (ds.take n) (vs.take n) []
  | ds, vs, 0, h => RdL.nil0
  | [], vs, n + 1, h => by rw [RdL] at h; rw [h.1]; exact RdL.nil0
  | d :: ds, vs, n + 1, h => by
    obtain ⟨v, r, rfl, h3, h4⟩ := h.inv0
    exact RdL.cons0 h3 (RdL.take0 n h4)
theorem RdL.rep0 {ds : List D} {vs : List V} (h : RdL C Z H ds vs []) : ∀ n : Nat, RdL C Z H (List.replicate n ds).flatten (List.replicate n vs).flatten []
  | 0 => RdL.nil0
  | n + 1 => by
    rw [List.replicate_succ, List.replicate_succ, List.flatten_cons, List.flatten_cons]
    exact RdL.app0 h (RdL.rep0 h n)
/-- .. by place -/
theorem RdL.at : ∀ {ds : List D} {vs : List V} {F : List Addr} {i : Nat} {d : D}, RdL C Z H ds vs F → ds[i]? = some d → ∃ v F1, vs[i]? = some v ∧ RdV C Z H d v F1
  | [], _, _, i, d, _, e => by simp at e
  | d0 :: ds, _, _, 0, d, h, e => by
    rw [RdL] at h
    obtain ⟨v, r, F1, F2, rfl, _, h3, _⟩ := h
    cases e
    exact ⟨v, F1, rfl, h3⟩
  | d0 :: ds, _, _, i + 1, d, h, e => by
    rw [RdL] at h
    obtain ⟨v, r, F1, F2, rfl, _, _, h4⟩ := h
    obtain ⟨v', F', h1, h2⟩ := RdL.at h4 (show ds[i]? = some d from e)
    exact ⟨v', F', h1, h2⟩
theorem RdL.atI {ds : List D} {vs : List V} {i : Int} {d : D} (h : RdL C Z H ds vs F) (e : L2.atI ds i = some d) : ∃ v F1, L2.atI vs i = some v ∧ RdV C Z H d v F1 := by
  unfold L2.atI at e ⊢
  rw [← h.length]
  cases q : ixN ds.length i with
  | none => rw [q] at e; cases e
  | some j =>
    rw [q] at e
    obtain ⟨v, F1, h1, h2⟩ := RdL.at h (show ds[j]? = some d from e)
    exact ⟨v, F1, h1, h2⟩

/-! ### what is read as a list or a tuple -/
/-- the items of a list -/
def lstD : D → Option (List D)
  | .lst _ ds => some ds
  | .scr ds => some ds
  | _ => none
theorem RdV.lstD {d : D} {v : V} {ds : List D} (zh : Same Z H) (h : RdV C Z H d v F) (e : Mi.lstD d = some ds) : ∃ a vs G, v = .ref a ∧ SqL C.K H a vs ∧ RdL C Z H ds vs G := by
  cases d with
  | lst o xs =>
    cases e
    cases o with
    | false =>
      rw [RdV] at h
      obtain ⟨_, a, vs, h1, h2, h3⟩ := h
      exact ⟨a, vs, [], h1, sqL_of (zh _ _ h2), h3⟩
    | true =>
      rw [RdV] at h
      obtain ⟨a, vs, G, h1, h2, _, h3⟩ := h
      exact ⟨a, vs, G, h1, sqL_of h2, h3⟩
  | scr xs =>
    cases e
    rw [RdV] at h
    obtain ⟨_, a, vs, h1, h2, h3⟩ := h
    exact ⟨a, vs, [], h1, zh.seq h2, h3⟩
  | _ => cases e
/-- .. that stands for itself -/
theorem RdV.lstP {o : Bool} {v : V} {ds : List D} (zh : Same Z H) (h : RdV C Z H (.lst o ds) v F) : ∃ a vs G, v = .ref a ∧ H a = some (.lst vs) ∧ RdL C Z H ds vs G := by
  cases o with
  | false =>
    rw [RdV] at h
    obtain ⟨_, a, vs, h1, h2, h3⟩ := h
    exact ⟨a, vs, [], h1, zh _ _ h2, h3⟩
  | true =>
    rw [RdV] at h
    obtain ⟨a, vs, G, h1, h2, _, h3⟩ := h
    exact ⟨a, vs, G, h1, h2, h3⟩
theorem RdV.tupP {v : V} {ds : List D} (zh : Same Z H) (h : RdV C Z H (.tup ds) v F) : F = [] ∧ ∃ a vs, v = .ref a ∧ SqT C.K H a vs ∧ RdL C Z H ds vs [] := by
  rw [RdV] at h
  obtain ⟨h0, a, vs, h1, h2, h3⟩ := h
  exact ⟨h0, a, vs, h1, Same.seqT zh h2, h3⟩
theorem RdL.nof {ds : List D} {vs : List V} (z : Mi.fznL ds = true) (h : RdL C Z H ds vs F) : RdL C Z H ds vs [] := by
  have := RdL.fznL ds vs F z h
  subst this
  exact h
theorem RdV.intI {i : Int} {v : V} (h : RdV C Z H (.int i) v F) : v = .int i := by rw [RdV] at h; exact h.1
theorem RdV.strI {i : Str} {v : V} (h : RdV C Z H (.str i) v F) : v = .str i := by rw [RdV] at h; exact h.1
theorem RdV.blI {i : Bool} {v : V} (h : RdV C Z H (.bl i) v F) : v = .bl i := by rw [RdV] at h; exact h.1
theorem RdV.nonI {v : V} (h : RdV C Z H .non v F) : v = .non := by rw [RdV] at h; exact h.1
/-! ### new things -/
theorem post_lst {ds : List D} {vs : List V} {p : Addr} {Q : VK} (o : Ok Z H F) (P : Post C Z H F (.lst true ds) Q) (hp : H p = none) (r : RdL C Z H ds vs []) : Q (.ref p) (upd H p (.lst vs)) := by
  refine P (.ref p) Z _ [p] (Ext.new o hp) ?_ (same_new hp)
  rw [RdV]
  exact ⟨p, vs, [], rfl, upd_same, rfl, r.same (Same.refl _) (same_new hp)⟩
theorem post_tup {ds : List D} {vs : List V} {p : Addr} {Q : VK} (o : Ok Z H F) (P : Post C Z H F (.tup ds) Q) (hp : H p = none) (r : RdL C Z H ds vs []) : Q (.ref p) (upd H p (.tup vs)) := by
  refine P (.ref p) (upd Z p (.tup vs)) _ [] (Ext.newZ o hp) ?_ (same_new hp)
  rw [RdV]
  exact ⟨rfl, p, vs, rfl, sqT_of upd_same, r.frozen (same_new (o.zh.free hp)) _⟩
theorem post_at {d : D} {v : V} {Q : VK} (o : Ok Z H F) (p : Post C Z H F d Q) (h : RdV C Z H d v []) : Q v H := post_val o p h

/-! ### operators -/
def mulOk (i j : Int) : Bool := decide (i.natAbs.log2 + j.natAbs.log2 < 1000000)
def fAdd : D → D → Option D
  | .int a, .int b => some (.int (a + b))
  | .str a, .str b => if a.length + b.length ≤ sizeLine then some (.str (a ++ b)) else none
  | .tup a, .tup b => if a.length + b.length ≤ sizeLine then some (.tup (a ++ b)) else none
  | .lst _ a, .lst _ b => if a.length + b.length ≤ sizeLine ∧ fznL a = true ∧ fznL b = true then some (.lst true (a ++ b)) else none
  | _, _ => none
def rAddU (K : PySem.W.Frag) : R2 := fun x y H Q => ((rI0 fun i j => .int (i + j)) x y H Q ∨ (∃ i j, x = .str i ∧ y = .str j ∧ i.length + j.length ≤ sizeLine ∧ Q (.str (i ++ j)) H)) ∨ (rCatA K x y H Q ∨ rCat x y H Q)
theorem o_add {X : Cx} (K : PySem.W.Frag) (h : X.K = K := by rfl) : OpR X (binaryOp .Add) (rAddU K) := by
  subst h
  exact OpR.or (OpR.or op_add op_add_str) (OpR.or op_catA op_cat)
theorem f_add : Fn2 C (rAddU C.K) fAdd := by
  intro d v Fd d' v' Fd' Z H F Q e o rd rd' hf p
  unfold fAdd at hf
  split at hf
  · cases hf
    rw [RdV] at rd rd'
    rw [rd.1, rd'.1]
    exact .inl (.inl ⟨_, _, rfl, rfl, post_val o p rd_int⟩)
  · split at hf
    · rename_i q
      cases hf
      rw [RdV] at rd rd'
      rw [rd.1, rd'.1]
      exact .inl (.inr ⟨_, _, rfl, rfl, q, post_val o p rd_str⟩)
    · cases hf
  · rename_i a b
    split at hf
    · rename_i q
      cases hf
      obtain ⟨_, x, vs, rfl, h1, h2⟩ := rd.tupP o.zh
      obtain ⟨_, y, us, rfl, g1, g2⟩ := rd'.tupP o.zh
      refine .inr (.inl ⟨x, y, vs, us, rfl, rfl, h1, g1, by rw [← h2.length, ← g2.length]; exact q, ?_, ?_, ?_⟩)
      · intro e
        refine post_val o p ?_
        have : a = [] := List.eq_nil_of_length_eq_zero (by rw [h2.length, e]; rfl)
        rw [this]
        rw [RdV] at rd' ⊢
        exact ⟨rfl, rd'.2⟩
      · intro _ e
        refine post_val o p ?_
        have : b = [] := List.eq_nil_of_length_eq_zero (by rw [g2.length, e]; rfl)
        rw [this, List.append_nil]
        rw [RdV] at rd ⊢
        exact ⟨rfl, rd.2⟩
      · intro _ _ pp hp
        exact post_tup o p hp (h2.app0 g2)
    · cases hf
  · rename_i oa a ob b
    split at hf
    · rename_i q
      cases hf
      obtain ⟨x, vs, G1, rfl, h1, h2⟩ := rd.lstP o.zh
      obtain ⟨y, us, G2, rfl, g1, g2⟩ := rd'.lstP o.zh
      refine .inr (.inr ⟨x, y, vs, us, rfl, rfl, h1, g1, by rw [← h2.length, ← g2.length]; exact q.1, fun pp hp => ?_⟩)
      exact post_lst o p hp ((h2.nof q.2.1).app0 (g2.nof q.2.2))
    · cases hf
  · cases hf
/-- two ints -/
def fI2 (g : Int → Int → Option D) : D → D → Option D
  | .int a, .int b => g a b
  | _, _ => none
theorem f_i2 {r : R2} {g : Int → Int → Option D} (h : ∀ a b e Q H, g a b = some e → (∀ v, (∀ Z H, RdV C Z H e v []) → Q v H) → r (.int a) (.int b) H Q) : Fn2 C r (fI2 g) := by
  intro d v Fd d' v' Fd' Z H F Q e o rd rd' hf p
  unfold fI2 at hf
  split at hf
  · rw [RdV] at rd rd'
    rw [rd.1, rd'.1]
    exact h _ _ e Q H hf fun v hv => post_val o p (hv Z H)
  · cases hf
def fSub := fI2 fun a b => some (.int (a - b))
theorem f_sub : Fn2 C (rI0 fun i j => .int (i - j)) fSub := f_i2 fun a b e Q H h k => by cases h; exact ⟨a, b, rfl, rfl, k _ fun _ _ => rd_int⟩
def fMod := fI2 fun a b => if 0 < b then some (.int (a % b)) else none
theorem f_mod : Fn2 C (rI (fun _ j => 0 < j) fun i j => .int (i % j)) fMod := f_i2 fun a b e Q H h k => by
  split at h
  · cases h; exact ⟨a, b, rfl, rfl, ‹_›, k _ fun _ _ => rd_int⟩
  · cases h
def fDiv := fI2 fun a b => if 0 < b ∧ b.natAbs.log2 < 9000 then some (.int (a / b)) else none
theorem f_div : Fn2 C (rI CDivW fun i j => .int (i / j)) fDiv := f_i2 fun a b e Q H h k => by
  split at h
  · cases h; exact ⟨a, b, rfl, rfl, ‹_›, k _ fun _ _ => rd_int⟩
  · cases h
def fPow := fI2 fun a b => if 0 ≤ b ∧ b ≤ 1000000 ∧ a.natAbs < 2 ^ 64 then some (.int (a ^ b.toNat)) else none
theorem f_pow : Fn2 C (rI CPow fun i j => .int (i ^ j.toNat)) fPow := f_i2 fun a b e Q H h k => by
  split at h
  · cases h; exact ⟨a, b, rfl, rfl, ‹_›, k _ fun _ _ => rd_int⟩
  · cases h
def fLt := fI2 fun a b => some (.bl (decide (a < b)))
theorem f_lt : Fn2 C (rI0 fun i j => .bl (decide (i < j))) fLt := f_i2 fun a b e Q H h k => by cases h; exact ⟨a, b, rfl, rfl, k _ fun _ _ => rd_bl⟩
def fLe := fI2 fun a b => some (.bl (decide (a ≤ b)))
theorem f_le : Fn2 C (rI0 fun i j => .bl (decide (i ≤ j))) fLe := f_i2 fun a b e Q H h k => by cases h; exact ⟨a, b, rfl, rfl, k _ fun _ _ => rd_bl⟩
def fGt := fI2 fun a b => some (.bl (decide (b < a)))
theorem f_gt : Fn2 C (rI0 fun i j => .bl (decide (j < i))) fGt := f_i2 fun a b e Q H h k => by cases h; exact ⟨a, b, rfl, rfl, k _ fun _ _ => rd_bl⟩
def fGe := fI2 fun a b => some (.bl (decide (b ≤ a)))
theorem f_ge : Fn2 C (rI0 fun i j => .bl (decide (j ≤ i))) fGe := f_i2 fun a b e Q H h k => by cases h; exact ⟨a, b, rfl, rfl, k _ fun _ _ => rd_bl⟩
/-- times: numbers, a list, a tuple, a text -/
def fMul : D → D → Option D
  | .int a, .int b => if mulOk a b then some (.int (a * b)) else none
  | .lst _ a, .int k => if -(2 ^ 63) ≤ k ∧ k < 2 ^ 63 ∧ a.length * k.toNat ≤ sizeLine ∧ fznL a = true then some (.lst true (List.replicate k.toNat a).flatten) else none
  | .str a, .int k => if -1000 ≤ k ∧ k ≤ 1000 ∧ a.length ≤ 1000 then some (.str (Txt.mul a k)) else none
  | .tup a, .int k => if a ≠ [] ∧ 2 ≤ k ∧ k ≤ 1000 ∧ a.length ≤ 1000 then some (.tup (List.replicate k.toNat a).flatten) else none
  | _, _ => none

def rMulS : R2 := fun x y H Q => ∃ (a : Str) (k : Int), x = .str a ∧ y = .int k ∧ -1000 ≤ k ∧ k ≤ 1000 ∧ a.length ≤ 1000 ∧ Q (.str (Txt.mul a k)) H
theorem op_mulS {X : Cx} : OpR X (binaryOp .Mult) rMulS := by
  intro pins s σ H x y v u Q I rx ry h
  obtain ⟨a, k, rfl, rfl, h1, h2, h3, q⟩ := h
  obtain ⟨t, rfl⟩ := rx
  obtain ⟨t', rfl⟩ := ry
  have hm : MulOk a k := by
    refine ⟨?_, ?_, ?_⟩
    · rw [Bool.or_eq_false_iff]
      exact ⟨decide_eq_false (by omega), decide_eq_false (by omega)⟩
    · intro g _ hc
      have h4 : (2 ^ 63 - 1 : Int) / k ≥ (2 ^ 63 - 1 : Int) / 1000 := by
        have hk : 0 < k := by omega
        rw [ge_iff_le, Int.le_ediv_iff_mul_le hk]
        have : (2 ^ 63 - 1 : Int) / 1000 * k ≤ (2 ^ 63 - 1 : Int) / 1000 * 1000 := Int.mul_le_mul_of_nonneg_left h2 (by decide)
        exact Int.le_trans this (by decide)
      have : (1000 : Int) ≤ (2 ^ 63 - 1 : Int) / 1000 := by decide
      omega
    · intro _ _
      unfold Builtin.Str.tooLong
      refine decide_eq_false ?_
      have : a.length * k.toNat ≤ 1000 * 1000 := Nat.mul_le_mul h3 (by omega)
      have : (1000 * 1000 : Nat) < sizeLine := by decide
      omega
  exact SB.mul hm fun t2 k2 => ⟨.str _, H, I.tok _, ⟨_, rfl⟩, q⟩
def rMulU (K : PySem.W.Frag) : R2 := fun x y H Q => ((rI CMulW fun i j => .int (i * j)) x y H Q ∨ rRep x y H Q) ∨ (rMulS x y H Q ∨ rRepT K x y H Q)
theorem o_mul {X : Cx} (K : PySem.W.Frag) (h : X.K = K := by rfl) : OpR X (binaryOp .Mult) (rMulU K) := by
  subst h
  exact OpR.or (OpR.or op_mulW op_rep) (OpR.or op_mulS op_repT)
theorem f_mul : Fn2 C (rMulU C.K) fMul := by
  intro d v Fd d' v' Fd' Z H F Q e o rd rd' hf p
  unfold fMul at hf
  split at hf
  · split at hf
    · rename_i q
      cases hf
      rw [RdV] at rd rd'
      rw [rd.1, rd'.1]
      exact .inl (.inl ⟨_, _, rfl, rfl, by simpa [mulOk, CMulW] using q, post_val o p rd_int⟩)
    · cases hf
  · split at hf
    · rename_i q
      cases hf
      obtain ⟨x, vs, G1, rfl, h1, h2⟩ := rd.lstP o.zh
      rw [RdV] at rd'
      rw [rd'.1]
      exact .inl (.inr ⟨x, _, vs, rfl, rfl, h1, q.1, q.2.1, by rw [← h2.length]; exact q.2.2.1, fun pp hp => post_lst o p hp ((h2.nof q.2.2.2).rep0 _)⟩)
    · cases hf
  · split at hf
    · rename_i q
      cases hf
      exact .inr (.inl ⟨_, _, rd.strI, rd'.intI, q.1, q.2.1, q.2.2, post_val o p rd_str⟩)
    · cases hf
  · split at hf
    · rename_i q
      cases hf
      obtain ⟨_, x, vs, rfl, h1, h2⟩ := rd.tupP o.zh
      rw [RdV] at rd'
      rw [rd'.1]
      refine .inr (.inr ⟨x, _, vs, rfl, rfl, h1, fun z => q.1 (List.eq_nil_of_length_eq_zero (by rw [h2.length, z]; rfl)), q.2.1, q.2.2.1, by rw [← h2.length]; exact q.2.2.2, fun pp hp => post_tup o p hp (h2.rep0 _)⟩)
    · cases hf
  · cases hf
/-! ### data: ==, repr -/
mutual
def toPy : D → Option PyData
  | .non => some .none
  | .bl b => some (.bool b)
  | .int i => some (.int i)
  | .str x => some (.str x)
  | .tup ds => (toPyL ds).map .tuple
  | .lst _ ds => (toPyL ds).map .list
  | .scr ds => (toPyL ds).map .list
  | _ => none
def toPyL : List D → Option (List PyData)
  | [] => some []
  | d :: ds => (toPy d).bind fun p => (toPyL ds).map (p :: ·)
end
mutual
theorem RdV.dp (zh : Same Z H) : ∀ (d : D) (v : V) (F : List Addr) (p : PyData), toPy d = some p → RdV C Z H d v F → Dp C.K H v p
  | .non, v, F, p, e, h => by rw [toPy] at e; cases e; rw [RdV] at h; rw [h.1]; exact .non
  | .bl b, v, F, p, e, h => by rw [toPy] at e; cases e; rw [RdV] at h; rw [h.1]; exact .bl b
  | .int b, v, F, p, e, h => by rw [toPy] at e; cases e; rw [RdV] at h; rw [h.1]; exact .int b
  | .str b, v, F, p, e, h => by rw [toPy] at e; cases e; rw [RdV] at h; rw [h.1]; exact .str b
  | .tup ds, v, F, p, e, h => by
    rw [toPy, Option.map_eq_some_iff] at e
    obtain ⟨ps, e, rfl⟩ := e
    obtain ⟨_, a, vs, rfl, h1, h2⟩ := h.tupP zh
    exact .tup h1 (RdL.dp zh ds vs [] ps e h2)
  | .lst o ds, v, F, p, e, h => by
    rw [toPy, Option.map_eq_some_iff] at e
    obtain ⟨ps, e, rfl⟩ := e
    obtain ⟨a, vs, G, rfl, h1, h2⟩ := h.lstD zh rfl
    exact .lst h1 (RdL.dp zh ds vs G ps e h2)
  | .scr ds, v, F, p, e, h => by
    rw [toPy, Option.map_eq_some_iff] at e
    obtain ⟨ps, e, rfl⟩ := e
    obtain ⟨a, vs, G, rfl, h1, h2⟩ := h.lstD zh rfl
    exact .lst h1 (RdL.dp zh ds vs G ps e h2)
  | .dct _ _, v, F, p, e, h => by rw [toPy] at e <;> first | cases e | (intros; contradiction)
  | .ins _ _ _, v, F, p, e, h => by rw [toPy] at e <;> first | cases e | (intros; contradiction)
  | .set _, v, F, p, e, h => by rw [toPy] at e <;> first | cases e | (intros; contradiction)
theorem RdL.dp (zh : Same Z H) : ∀ (ds : List D) (vs : List V) (F : List Addr) (ps : List PyData), toPyL ds = some ps → RdL C Z H ds vs F → DpAll C.K H vs ps
  | [], vs, F, ps, e, h => by rw [toPyL] at e; cases e; rw [RdL] at h; rw [h.1]; exact .nil
  | d :: ds, vs, F, ps, e, h => by
    rw [toPyL, Option.bind_eq_some_iff] at e
    obtain ⟨p, e1, e2⟩ := e
    rw [Option.map_eq_some_iff] at e2
    obtain ⟨qs, e2, rfl⟩ := e2
    rw [RdL] at h
    obtain ⟨v, r, F1, F2, rfl, _, h3, h4⟩ := h
    exact .cons (RdV.dp zh d v F1 p e1 h3) (RdL.dp zh ds r F2 qs e2 h4)
end
/-- == of data -/
def eqP (d e : D) : Option Bool := match toPy d, toPy e with
  | some p, some q => if SeqAt.shaped p && SeqAt.shaped q then some (PyData.eqv p q) else none
  | _, _ => none
def fEq (d e : D) : Option D := (eqP d e).map .bl
def fNe (d e : D) : Option D := (eqP d e).map fun b => .bl (!b)
theorem eqP_dp {d e : D} {b : Bool} (h : eqP d e = some b) : ∃ p q, toPy d = some p ∧ toPy e = some q ∧ SeqAt.shaped p = true ∧ SeqAt.shaped q = true ∧ b = PyData.eqv p q := by
  unfold eqP at h
  split at h
  · rename_i p q e1 e2
    split at h
    · rename_i k
      rw [Bool.and_eq_true] at k
      exact ⟨p, q, e1, e2, k.1, k.2, (Option.some.inj h).symm⟩
    · cases h
  · cases h
theorem f_eq : Fn2 C (rEqD C.K) fEq := by
  intro d v Fd d' v' Fd' Z H F Q e o rd rd' hf p
  unfold fEq at hf
  rw [Option.map_eq_some_iff] at hf
  obtain ⟨b, hb, rfl⟩ := hf
  obtain ⟨p1, p2, e1, e2, s1, s2, rfl⟩ := eqP_dp hb
  exact ⟨p1, p2, RdV.dp o.zh d v Fd p1 e1 rd, RdV.dp o.zh d' v' Fd' p2 e2 rd', s1, s2, post_val o p rd_bl⟩
theorem f_ne : Fn2 C (rNeD C.K) fNe := by
  intro d v Fd d' v' Fd' Z H F Q e o rd rd' hf p
  unfold fNe at hf
  rw [Option.map_eq_some_iff] at hf
  obtain ⟨b, hb, rfl⟩ := hf
  obtain ⟨p1, p2, e1, e2, s1, s2, rfl⟩ := eqP_dp hb
  exact ⟨p1, p2, RdV.dp o.zh d v Fd p1 e1 rd, RdV.dp o.zh d' v' Fd' p2 e2 rd', s1, s2, post_val o p rd_bl⟩
/-- is None; is True -/
def isNonD : D → Bool
  | .non => true
  | _ => false
theorem isNon_iff {d : D} {v : V} (h : RdV C Z H d v F) : decide (v = .non) = isNonD d := by
  cases d <;> (first | (rw [RdV] at h) | skip)
  case non => rw [h.1]; rfl
  case bl => rw [h.1]; rfl
  case int => rw [h.1]; rfl
  case str => rw [h.1]; rfl
  case tup => obtain ⟨_, a, vs, rfl, _⟩ := h; rfl
  case set => obtain ⟨_, a, vs, rfl, _⟩ := h; rfl
  case scr => obtain ⟨_, a, vs, rfl, _⟩ := h; rfl
  case lst o ds =>
    cases o
    · obtain ⟨_, a, vs, rfl, _⟩ := h; rfl
    · obtain ⟨a, vs, G, rfl, _⟩ := h; rfl
  case dct o ds =>
    cases o
    · obtain ⟨_, a, vs, rfl, _⟩ := h; rfl
    · obtain ⟨a, vs, G, rfl, _⟩ := h; rfl
  case ins o c ds =>
    cases o
    · obtain ⟨_, a, Ca, dx, vs, rfl, _⟩ := h; rfl
    · obtain ⟨a, Ca, dx, vs, G, rfl, _⟩ := h; rfl
def fIs : D → D → Option D
  | d, .non => some (.bl (isNonD d))
  | .bl a, .bl b => some (.bl (decide (a = b)))
  | _, _ => none
def fNis : D → D → Option D
  | d, .non => some (.bl (!isNonD d))
  | .bl a, .bl b => some (.bl (!decide (a = b)))
  | _, _ => none
def rIsU : R2 := fun x y H Q => (y = .non ∧ Q (.bl (decide (x = .non))) H) ∨ ∃ a b, x = .bl a ∧ y = .bl b ∧ Q (.bl (decide (a = b))) H
def rNisU : R2 := fun x y H Q => (y = .non ∧ Q (.bl (!decide (x = .non))) H) ∨ ∃ a b, x = .bl a ∧ y = .bl b ∧ Q (.bl (!decide (a = b))) H
theorem o_is {X : Cx} : OpR X (compareOp .Is) rIsU := OpR.or op_isN op_is_bl
theorem o_nis {X : Cx} : OpR X (compareOp .IsNot) rNisU := OpR.or op_notN op_isnot_bl
theorem f_is : Fn2 C rIsU fIs := by
  intro d v Fd d' v' Fd' Z H F Q e o rd rd' hf p
  unfold fIs at hf
  split at hf
  · cases hf
    rw [RdV] at rd'
    refine .inl ⟨rd'.1, ?_⟩
    rw [isNon_iff rd]
    exact post_val o p rd_bl
  · cases hf
    rw [RdV] at rd rd'
    exact .inr ⟨_, _, rd.1, rd'.1, post_val o p rd_bl⟩
  · cases hf
theorem f_nis : Fn2 C rNisU fNis := by
  intro d v Fd d' v' Fd' Z H F Q e o rd rd' hf p
  unfold fNis at hf
  split at hf
  · cases hf
    rw [RdV] at rd'
    refine .inl ⟨rd'.1, ?_⟩
    rw [isNon_iff rd]
    exact post_val o p rd_bl
  · cases hf
    rw [RdV] at rd rd'
    exact .inr ⟨_, _, rd.1, rd'.1, post_val o p rd_bl⟩
  · cases hf
end
end Mi

set_option maxHeartbeats 4000000
namespace Mi
open PySem PySem.Spec PyProof.Rows L2 RZ Ov

section
variable {N : Cn} {C : Ct} {Z H Z' H' : Hp} {F F' G Fv : List Addr} {σ : L2.St}
/-! ### flat values -/
def flatD : D → Bool
  | .non => true
  | .bl _ => true
  | .int _ => true
  | .str _ => true
  | _ => false
def eqF : D → D → Bool
  | .non, .non => true
  | .bl a, .bl b => a == b
  | .bl a, .int b => (if a then 1 else 0) == b
  | .int a, .bl b => a == (if b then 1 else 0)
  | .int a, .int b => a == b
  | .str a, .str b => a == b
  | _, _ => false
def vF : D → V
  | .bl b => .bl b
  | .int i => .int i
  | .str x => .str x
  | _ => .non
theorem RdV.flat {d : D} {v : V} (f : flatD d = true) (h : RdV C Z H d v F) : v = vF d ∧ flatV v = true := by
  cases d with
  | non => rw [h.nonI]; exact ⟨rfl, rfl⟩
  | bl b => rw [h.blI]; exact ⟨rfl, rfl⟩
  | int b => rw [h.intI]; exact ⟨rfl, rfl⟩
  | str b => rw [h.strI]; exact ⟨rfl, rfl⟩
  | _ => cases f
theorem eqV_vF {d e : D} (h : flatD d = true) (g : flatD e = true) : eqV (vF d) (vF e) = eqF d e := by
  cases d <;> cases e <;> first | rfl | (exact absurd h Bool.false_ne_true) | (exact absurd g Bool.false_ne_true)
theorem RdL.flat : ∀ {ds : List D} {vs : List V} {F : List Addr}, ds.all flatD = true → RdL C Z H ds vs F → vs = ds.map vF ∧ vs.all flatV = true
  | [], _, _, _, h => by rw [RdL] at h; rw [h.1]; exact ⟨rfl, rfl⟩
  | d :: ds, _, _, f, h => by
    rw [RdL] at h
    obtain ⟨v, r, F1, F2, rfl, _, h3, h4⟩ := h
    rw [List.all_cons, Bool.and_eq_true] at f
    obtain ⟨e1, e2⟩ := h3.flat f.1
    obtain ⟨e3, e4⟩ := RdL.flat f.2 h4
    exact ⟨by rw [e1, e3]; rfl, by rw [List.all_cons, e2, e4]; rfl⟩
def inF (d : D) (ds : List D) : Bool := ds.any fun y => eqF y d
theorem inV_vF {d : D} (f : flatD d = true) : ∀ {ds : List D}, ds.all flatD = true → inV (vF d) (ds.map vF) = inF d ds
  | [], _ => rfl
  | e :: ds, h => by
    rw [List.all_cons, Bool.and_eq_true] at h
    have := inV_vF f h.2
    unfold inV inF at this ⊢
    rw [List.map_cons, List.any_cons, List.any_cons, this, eqV_vF h.1 f]
/-! ### keys -/
def keyD : D → Option Key
  | .int i => some (.inl i)
  | .str x => some (.inr x)
  | _ => none
theorem kD_key {d : D} {k : Key} (h : keyD d = some k) : d = kD k := by
  cases d <;> cases h <;> rfl
theorem RdV.key {d : D} {v : V} {k : Key} (e : keyD d = some k) (h : RdV C Z H d v F) : v = kV k := by
  cases d with
  | int i => cases e; exact h.intI
  | str i => cases e; exact h.strI
  | _ => cases e
theorem eqF_kD {a b : Key} : eqF (kD a) (kD b) = decide (a = b) := by
  cases a <;> cases b <;> simp [kD, eqF, Bool.beq_eq_decide_eq]
def lookD (kvs : List (D × D)) (k : D) : Option D := (kvs.find? fun p => eqF p.1 k).map (·.2)
theorem RdK.val : ∀ {kvs : List (D × D)} {us : List (Key × V)} {F : List Addr} {k : Key}, RdK C Z H kvs us F →
    (lookD kvs (kD k) = none ∧ valV us k = none) ∨ ∃ d v F1, lookD kvs (kD k) = some d ∧ valV us k = some v ∧ RdV C Z H d v F1
  | [], _, _, k, h => by rw [RdK] at h; rw [h.1]; exact .inl ⟨rfl, rfl⟩
  | (q0, d0) :: kvs, _, _, k, h => by
    rw [RdK] at h
    obtain ⟨q, v, s, F1, F2, rfl, _, rfl, rv, h⟩ := h
    have ih := RdK.val (k := k) h
    unfold lookD valV at ih ⊢
    rw [List.find?_cons, List.find?_cons]
    simp only [eqF_kD]
    by_cases e : q = k
    · subst e
      simp only [decide_true]
      exact .inr ⟨d0, v, F1, rfl, rfl, rv⟩
    · simp only [decide_eq_false e]
      exact ih
/-! ### in -/
def fIn : D → D → Option D
  | d, .tup ds => if flatD d && ds.all flatD then some (.bl (inF d ds)) else none
  | d, .lst _ ds => if flatD d && ds.all flatD then some (.bl (inF d ds)) else none
  | d, .dct _ kvs => match keyD d with | some _ => some (.bl (lookD kvs d).isSome) | none => none
  | .str x, .str z => match x.cps.toList with | [c] => some (.bl (decide (c ∈ z.cps.toList))) | _ => none
  | _, _ => none
def fNin (d e : D) : Option D := match fIn d e with | some (.bl b) => some (.bl (!b)) | _ => none
def rDIn (neg : Bool) : R2 := fun y x H Q => ∃ a o, x = .ref a ∧ DGet H a y o ∧ Q (.bl (if neg then !o.isSome else o.isSome)) H
theorem o_dIn {X : Cx} (hu : X.A.units + 64 < cLine) : OpR X (compareOp .In) (rDIn false) := by
  intro pins s σ H x y v u Q I rx ry h
  obtain ⟨a, o, rfl, g, q⟩ := h
  cases ry
  exact d_in (by omega) I g rx fun s3 I3 => ⟨.bl o.isSome, H, I3, rfl, q⟩
theorem o_dNin {X : Cx} (hu : X.A.units + 64 < cLine) : OpR X (compareOp .NotIn) (rDIn true) := by
  intro pins s σ H x y v u Q I rx ry h
  obtain ⟨a, o, rfl, g, q⟩ := h
  cases ry
  exact d_notIn (by omega) I g rx fun s3 I3 => ⟨.bl (!o.isSome), H, I3, rfl, q⟩
def rSignIn (neg : Bool) : R2 := fun x y H Q => ∃ (c : Nat) (z : Str), x = .str ⟨#[c]⟩ ∧ y = .str z ∧ Q (.bl (if neg then !decide (c ∈ z.cps.toList) else decide (c ∈ z.cps.toList))) H
def rInU (K : PySem.W.Frag) (neg : Bool) : R2 := fun x y H Q => rIn K neg x y H Q ∨ (rDIn neg x y H Q ∨ rSignIn neg x y H Q)
theorem o_in {X : Cx} (K : PySem.W.Frag) (hu : X.A.units + 64 < cLine) (h : X.K = K := by rfl) : OpR X (compareOp .In) (rInU K false) := by
  subst h
  exact OpR.or op_in_seq (OpR.or (o_dIn hu) op_in_sign)
theorem o_nin {X : Cx} (K : PySem.W.Frag) (hu : X.A.units + 64 < cLine) (h : X.K = K := by rfl) : OpR X (compareOp .NotIn) (rInU K true) := by
  subst h
  exact OpR.or op_notIn_seq (OpR.or (o_dNin hu) op_notIn_sign)
theorem DGet.kd {a : Addr} {us : List (Key × V)} {k : Key} (e : H a = some (.dK us)) : DGet H a (kV k) (valV us k) := L2.DGet.k e
theorem RdV.dctP {o : Bool} {v : V} {kvs : List (D × D)} (zh : Same Z H) (h : RdV C Z H (.dct o kvs) v F) : ∃ a us G, v = .ref a ∧ H a = some (.dK us) ∧ RdK C Z H kvs us G := by
  cases o with
  | false =>
    rw [RdV] at h
    obtain ⟨_, a, vs, h1, h2, h3⟩ := h
    exact ⟨a, vs, [], h1, zh _ _ h2, h3⟩
  | true =>
    rw [RdV] at h
    obtain ⟨a, vs, G, h1, h2, _, h3⟩ := h
    exact ⟨a, vs, G, h1, h2, h3⟩
theorem in_core (neg : Bool) {d v Fd d' v' Fd' Q} {b : Bool} (o : Ok Z H F) (rd : RdV C Z H d v Fd) (rd' : RdV C Z H d' v' Fd') (hf : fIn d d' = some (.bl b)) (q : Q (V.bl (if neg then !b else b)) H) : rInU C.K neg v v' H Q := by
  unfold fIn at hf
  split at hf
  · split at hf
    · rename_i ds k
      cases hf
      rw [Bool.and_eq_true] at k
      obtain ⟨_, a, vs, rfl, h1, h2⟩ := rd'.tupP o.zh
      obtain ⟨e1, e2⟩ := rd.flat k.1
      obtain ⟨e3, e4⟩ := h2.flat k.2
      refine .inl ⟨a, vs, rfl, .inr h1, e2, e4, ?_⟩
      rw [e1, e3, inV_vF k.1 k.2]
      exact q
    · cases hf
  · split at hf
    · rename_i ow ds k
      cases hf
      rw [Bool.and_eq_true] at k
      obtain ⟨a, vs, G, rfl, h1, h2⟩ := rd'.lstD o.zh rfl
      obtain ⟨e1, e2⟩ := rd.flat k.1
      obtain ⟨e3, e4⟩ := h2.flat k.2
      refine .inl ⟨a, vs, rfl, .inl h1, e2, e4, ?_⟩
      rw [e1, e3, inV_vF k.1 k.2]
      exact q
    · cases hf
  · split at hf
    · rename_i kvs dd k hk
      cases hf
      obtain ⟨a, us, G, rfl, h1, h2⟩ := rd'.dctP o.zh
      obtain rfl := kD_key hk
      have e1 := rd.key hk
      subst e1
      have e2 : (valV us k).isSome = (lookD kvs (kD k)).isSome := by
        rcases h2.val (k := k) with ⟨z1, z2⟩ | ⟨x, y, F1, z1, z2, _⟩
        · rw [z1, z2]; rfl
        · rw [z1, z2]; rfl
      refine .inr (.inl ⟨a, _, rfl, DGet.kd h1, ?_⟩)
      rw [e2]
      exact q
    · cases hf
  · split at hf
    · rename_i x z ls c hc
      cases hf
      have e1 := rd.strI
      have e2 := rd'.strI
      subst e1 e2
      have : x = ⟨#[c]⟩ := by
        cases x with
        | mk cps =>
          have : cps = #[c] := by
            have h : cps.toList = [c] := hc
            cases cps with
            | mk l => cases h; rfl
          rw [this]
      exact .inr (.inr ⟨c, z, by rw [this], rfl, q⟩)
    · cases hf
  · cases hf
theorem f_in : Fn2 C (rInU C.K false) fIn := by
  intro d v Fd d' v' Fd' Z H F Q e o rd rd' hf p
  have hb : ∃ b, e = .bl b := by
    unfold fIn at hf
    split at hf <;> (try split at hf) <;> first | (cases hf; exact ⟨_, rfl⟩) | cases hf
  obtain ⟨b, rfl⟩ := hb
  exact in_core false o rd rd' hf (post_val o p rd_bl)
theorem f_nin : Fn2 C (rInU C.K true) fNin := by
  intro d v Fd d' v' Fd' Z H F Q e o rd rd' hf p
  unfold fNin at hf
  split at hf
  · rename_i b hb
    cases hf
    exact in_core true o rd rd' hb (post_val o p rd_bl)
  · cases hf
/-! ### looks: nothing new in the heap -/
def Fn2T (C : Ct) (r : R2) (f : D → D → Option D) : Prop := ∀ d v Fd d' v' Fd' Z H F Q e, Ok Z H F → RdV C Z H d v Fd → RdV C Z H d' v' Fd' → f d d' = some e → (∀ u Fe, RdV C Z H e u Fe → Q u H) → r v v' H Q
theorem rt_op {s1 : Bool} {r : R2} {f : D → D → Option D} {t u : TE} {m n : ME} (hf : Fn2T N.C r f) (h : RefT N s1 t m) (hu : RefT N true u n) : RefT N s1 (tOp r t u) (e2 f m n) := fun env σ Z H F Q o re w => by
  refine h env σ Z H F _ o re (w.bind.mono (Pin.refl _ _) (Ext.refl o) ?_)
  intro d env1 k v Z1 H1 Fd F1 x1 rd r1 sm1
  refine hu env1 σ Z1 H1 F1 _ x1.ok r1 ((Wp.bind (k.mono (Pin.refl _ _) x1 fun _ _ z => z)).mono (Pin.refl _ _) (Ext.refl x1.ok) ?_)
  intro d2 env2 k2 v2 Z2 H2 Fd2 F2 x2 rd2 r2 sm2
  obtain ⟨e, he⟩ := wp_lift k2
  rw [he] at k2
  exact hf d v Fd d2 v2 Fd2 Z2 H2 F2 Q e x2.ok (rd.same x2.zz (sm2 rfl)) rd2 he fun u Fe ru => k2 u Z2 H2 Fe F2 (x1.trans x2) ru r2 fun z => (sm1 z).trans (sm2 rfl)
theorem rt_opk {s1 s2 : Bool} {r : R2} {f : D → D → Option D} {t u : TE} {m n : ME} (hf : Fn2T N.C r f) (h : RefE N s1 t m) (hu : RefT N s2 u n) : RefT N (s1 && s2) (tOp r t u) (e2 f m n) := fun env σ Z H F Q o re w => by
  refine h env σ Z H F _ o re (w.bind.mono (Pin.refl _ _) (Ext.refl o) ?_)
  intro d env1 k v Z1 H1 Fd F1 x1 rd r1 sm1
  have o1 := x1.ok.split
  refine hu env1 σ Z1 H1 F1 _ o1 r1 ((Wp.bind (k.mono (Pin.refl _ _) x1.right fun _ _ z => z)).mono (Pin.refl _ _) (Ext.refl o1) ?_)
  intro d2 env2 k2 v2 Z2 H2 Fd2 F2 x2 rd2 r2 sm2
  obtain ⟨e, he⟩ := wp_lift k2
  rw [he] at k2
  exact hf d v Fd d2 v2 Fd2 Z2 H2 F2 Q e x2.ok (x2.held x1.ok.disj rd) rd2 he fun u Fe ru => k2 u Z2 H2 Fe F2 (x1.right.trans x2) ru r2 fun z => by
    rw [Bool.and_eq_true] at z
    exact (sm1 z.1).trans (sm2 z.2)
def fIx : D → D → Option D
  | .tup ds, .int i => atI ds i
  | .lst _ ds, .int i => atI ds i
  | .scr ds, .int i => atI ds i
  | .str x, .int i => if x.length ≤ sizeLine then (atI x.cps.toList i).map fun c => .str ⟨#[c]⟩ else none
  | .dct _ kvs, k => match keyD k with | some _ => lookD kvs k | none => none
  | _, _ => none
def rDGetU : R2 := fun x y H Q => ∃ a v, x = .ref a ∧ DGet H a y (some v) ∧ Q v H
theorem ix_dict {X : Cx} (hu : X.A.units + 64 < cLine) : IxR X rDGetU := by
  intro value slice pins s σ H x y v u Q I rx ry q hs
  obtain ⟨a, w0, rfl, g, q⟩ := q
  cases rx
  have hT := dict_typeIs I g
  have main := d_getItem (A := X.A) (E := X.xe) (Q := EP X pins σ Q) (by omega) I g ry fun w' s3 I3 r3 => ⟨w0, H, I3, r3, q⟩
  have sub : wpAny (model X.prog X.w) X.A (subscripted slice false (.ref a) u) (fun r s₃ => wpAny (model X.prog X.w) X.A (letTemporaryGo value (.ref a) r >>= fun _ => pure r) (EP X pins σ Q) X.xe s₃) X.xe s := by
    rw [hs]
    exact wpAny_operating (wpAny_mono main (fun r s₃ h₃ => wpAny_bind (wpAny_letTemporaryGo (wpAny_pure h₃))) fun _ _ x => x)
  unfold subscriptTail
  refine wpAny_bind ?_
  rw [getitemInPython_of_ne hT.not_modules]
  refine wpAny_bind (wpAny_specialOf hT PySem.F.slot_dict_getitem.lookup ?_)
  first
    | exact wpAny_pure (wpAny_bind sub)
    | exact wpAny_pure (wpAny_pure (wpAny_bind sub))
    | exact wpAny_bind (wpAny_pure (wpAny_pure (wpAny_bind sub)))
def rIxU (K : PySem.W.Frag) : R2 := fun x y H Q => (rIxL K x y H Q ∨ rIxT K x y H Q) ∨ (rIxS x y H Q ∨ rDGetU x y H Q)
theorem o_ix {X : Cx} (K : PySem.W.Frag) (hu : X.A.units + 64 < cLine) (h : X.K = K := by rfl) : IxR X (rIxU K) := by
  subst h
  exact IxR.or (IxR.or ix_list ix_tup) (IxR.or ix_str (ix_dict hu))
theorem f_ix : Fn2T C (rIxU C.K) fIx := by
  intro d v Fd d' v' Fd' Z H F Q e o rd rd' hf p
  unfold fIx at hf
  split at hf
  · obtain ⟨_, a, vs, rfl, h1, h2⟩ := rd.tupP o.zh
    obtain ⟨u, Fe, e1, e2⟩ := h2.atI hf
    exact .inl (.inr ⟨a, vs, _, u, rfl, rd'.intI, h1, e1, p u Fe e2⟩)
  · obtain ⟨a, vs, G, rfl, h1, h2⟩ := rd.lstD o.zh rfl
    obtain ⟨u, Fe, e1, e2⟩ := h2.atI hf
    exact .inl (.inl ⟨a, vs, _, u, rfl, rd'.intI, h1, e1, p u Fe e2⟩)
  · obtain ⟨a, vs, G, rfl, h1, h2⟩ := rd.lstD o.zh rfl
    obtain ⟨u, Fe, e1, e2⟩ := h2.atI hf
    exact .inl (.inl ⟨a, vs, _, u, rfl, rd'.intI, h1, e1, p u Fe e2⟩)
  · split at hf
    · rename_i q
      rw [Option.map_eq_some_iff] at hf
      obtain ⟨c, hc, rfl⟩ := hf
      exact .inr (.inl ⟨_, _, c, rd.strI, rd'.intI, q, hc, p _ [] rd_str⟩)
    · cases hf
  · split at hf
    · rename_i ow kvs k q hq
      obtain ⟨a, us, G, rfl, h1, h2⟩ := rd.dctP o.zh
      obtain rfl := kD_key hq
      have e1 := rd'.key hq
      subst e1
      rcases h2.val (k := q) with ⟨z1, z2⟩ | ⟨x, y, F1, z1, z2, z3⟩
      · rw [z1] at hf; cases hf
      · rw [z1] at hf
        cases hf
        refine .inr (.inr ⟨a, y, rfl, ?_, p y F1 z3⟩)
        rw [← z2]
        exact DGet.kd h1
    · cases hf
  · cases hf
end
end Mi

set_option maxHeartbeats 4000000
namespace Mi
open PySem PySem.Spec PyProof.Rows L2 RZ Ov

section
variable {N : Cn} {C : Ct} {Z H Z' H' : Hp} {F F' G Fv : List Addr} {σ : L2.St}
/-! ### frozen -/
def eFz (m : ME) : ME := fun env => (m env).bind fun d e => .ok (fz d) e
theorem re_fz {st : Bool} {t : TE} {m : ME} (h : RefE N st t m) : RefE N st t (eFz m) := fun env σ Z H F Q o r w => by
  refine h.freeze env σ Z H F Q o r (w.bind.mono (Pin.refl _ _) (Ext.refl o) ?_)
  intro d env1 k v Z1 H1 F1 x rv r1 s1
  exact k v Z1 H1 [] F1 x rv r1 s1
/-! ### slices -/
def cutA {α : Type} (xs : List α) (lo hi : Option Int) : List α := (xs.drop (HT.sIx xs.length 0 lo)).take (HT.sIx xs.length xs.length hi - HT.sIx xs.length 0 lo)
theorem RdL.cut {ds : List D} {vs : List V} {lo hi : Option Int} (h : RdL C Z H ds vs []) : RdL C Z H (cutA ds lo hi) (cutV vs lo hi) [] := by
  unfold cutA cutV
  rw [h.length]
  exact (h.drop0 _).take0 _
def fSl : D → Option Int → Option Int → Option D
  | .tup ds, lo, hi => some (.tup (cutA ds lo hi))
  | .lst _ ds, lo, hi => if fznL ds then some (.lst true (cutA ds lo hi)) else none
  | .str x, lo, hi => if x.length ≤ sizeLine then some (.str (cutS x lo hi)) else none
  | _, _, _ => none
def rSlU2 (K : PySem.W.Frag) : V → Option Int → Option Int → Hp → VK → Prop := fun x lo hi H Q => rSlL K x lo hi H Q ∨ (rSlA K x lo hi H Q ∨ rSlS x lo hi H Q)
theorem o_sl {X : Cx} (K : PySem.W.Frag) (h : X.K = K := by rfl) : SlR X (rSlU2 K) := by
  subst h
  exact SlR.or sl_list (SlR.or sl_tupA sl_str)
abbrev MO := Env → R (Option Int)
def oN : MO := fun env => .ok none env
def oS (m : ME) : MO := fun env => (m env).bind fun d e => match d with | .int i => .ok (some i) e | _ => .no
def RefO (N : Cn) (t : TO) (m : MO) : Prop := ∀ env σ Z H F Q, Ok Z H F → RdE N.C Z H env σ F →
  Wp N σ Z H F (m env) (fun l env' => ∀ Z' H' F', Ext Z H F Z' H' F' → RdE N.C Z' H' env' σ F' → Same H H' → Q l H') → t σ H Q
theorem ro_n : RefO N tNoPart oN := fun env σ Z H F Q o r w => w Z H F (Ext.refl o) r (Same.refl _)
theorem ro_s {t : TE} {m : ME} (h : RefT N true t m) : RefO N (tPart t) (oS m) := fun env σ Z H F Q o r w => by
  refine h env σ Z H F _ o r (w.bind.mono (Pin.refl _ _) (Ext.refl o) ?_)
  intro d env1 k v Z1 H1 Fd F1 x rd r1 s1
  cases d with
  | int i => exact ⟨i, rd.intI, k Z1 H1 F1 x r1 (s1 rfl)⟩
  | _ => exact k.elim
def eSl (m : ME) (lo hi : MO) : ME := fun env => (m env).bind fun d e => (lo e).bind fun l e => (hi e).bind fun h e => lift (fSl d l h) e
theorem re_sl {s1 : Bool} {t : TE} {tl th : TO} {m : ME} {lo hi : MO} (h : RefT N s1 t m) (hl : RefO N tl lo) (hh : RefO N th hi) : RefE N s1 (tSl (rSlU2 N.C.K) t tl th) (eSl m lo hi) := fun env σ Z H F Q o re w => by
  refine h env σ Z H F _ o re (w.bind.mono (Pin.refl _ _) (Ext.refl o) ?_)
  intro d env1 k v Z1 H1 Fd F1 x1 rd r1 sm1
  refine hl env1 σ Z1 H1 F1 _ x1.ok r1 ((Wp.bind (k.mono (Pin.refl _ _) x1 fun _ _ z => z)).mono (Pin.refl _ _) (Ext.refl x1.ok) ?_)
  intro l env2 k2 Z2 H2 F2 x2 r2 sm2
  refine hh env2 σ Z2 H2 F2 _ x2.ok r2 ((Wp.bind (k2.mono (Pin.refl _ _) x2 fun _ _ z => z)).mono (Pin.refl _ _) (Ext.refl x2.ok) ?_)
  intro u env3 k3 Z3 H3 F3 x3 r3 sm3
  obtain ⟨e, he⟩ := wp_lift k3
  have P := post_end ((x1.trans x2).trans x3) r3 (fun z => ((sm1 z).trans sm2).trans sm3) he k3
  have rd := (rd.same x2.zz sm2).same x3.zz sm3
  clear k3 k2 k w
  unfold fSl at he
  split at he
  · rename_i ds
    cases he
    have rd0 := rd
    obtain ⟨_, a, vs, rfl, h1, h2⟩ := rd.tupP x3.ok.zh
    refine .inr (.inl ⟨a, vs, rfl, h1, fun hw => ?_, fun _ p hp => post_tup x3.ok P hp h2.cut⟩)
    refine post_val x3.ok P ?_
    have : ∀ {ds : List D} {l u : Option Int}, RdL N.C Z3 H3 ds vs [] → HT.sIx vs.length 0 l = 0 ∧ HT.sIx vs.length vs.length u = vs.length → cutA ds l u = ds := by
      intro ds l u h2 hw
      unfold cutA
      rw [h2.length, hw.1, hw.2]
      rw [← h2.length]
      simp
    rw [this h2 hw]
    rw [RdV] at rd0 ⊢
    exact ⟨rfl, rd0.2⟩
  · split at he
    · rename_i q
      cases he
      obtain ⟨a, vs, G, rfl, h1, h2⟩ := rd.lstD x3.ok.zh rfl
      exact .inl ⟨a, vs, rfl, h1, fun p hp => post_lst x3.ok P hp (h2.nof q).cut⟩
    · cases he
  · split at he
    · rename_i q
      cases he
      exact .inr (.inr ⟨_, rd.strI, q, post_val x3.ok P rd_str⟩)
    · cases he
  · cases he
/-- xs[::-1] -/
def fRev : D → Option D
  | .lst _ ds => if fznL ds then some (.lst true ds.reverse) else none
  | _ => none
theorem RdL.snoc0 {ds : List D} {vs : List V} {d : D} {v : V} (h : RdL C Z H ds vs []) (r : RdV C Z H d v []) : RdL C Z H (ds ++ [d]) (vs ++ [v]) [] := h.app0 (RdL.cons0 r RdL.nil0)
theorem RdL.rev : ∀ {ds : List D} {vs : List V}, RdL C Z H ds vs [] → RdL C Z H ds.reverse vs.reverse []
  | [], vs, h => by rw [RdL] at h; rw [h.1]; exact RdL.nil0
  | d :: ds, vs, h => by
    obtain ⟨v, r, rfl, h1, h2⟩ := h.inv0
    rw [List.reverse_cons, List.reverse_cons]
    exact (RdL.rev h2).snoc0 h1
theorem re_rev {st : Bool} {t : TE} {m : ME} (h : RefT N st t m) : RefE N st (tRevL N.C.K t) (e1 fRev m) := by
  refine re_un (r := fun x H1 Q => ∃ a xs, x = .ref a ∧ SqL N.C.K H1 a xs ∧ ∀ p, H1 p = none → Q (.ref p) (upd H1 p (.lst xs.reverse))) ?_ h
  intro d v Fd Z H F Q e o rd hf p
  unfold fRev at hf
  split at hf
  · split at hf
    · rename_i q
      cases hf
      obtain ⟨a, vs, G, rfl, h1, h2⟩ := rd.lstD o.zh rfl
      exact ⟨a, vs, rfl, h1, fun p' hp => post_lst o p hp (h2.nof q).rev⟩
    · cases hf
  · cases hf
/-! ### built-ins -/
def intsD : List D → Option (List Int)
  | [] => some []
  | .int i :: ds => (intsD ds).map (i :: ·)
  | _ => none
def boolsD : List D → Option (List Bool)
  | [] => some []
  | .bl i :: ds => (boolsD ds).map (i :: ·)
  | _ => none
theorem intsD_map {ks : List D} {ns : List Int} (h : intsD ks = some ns) : ks = ns.map D.int := by
  induction ks generalizing ns with
  | nil => cases h; rfl
  | cons d r ih =>
    cases d with
    | int i =>
      rw [intsD, Option.map_eq_some_iff] at h
      obtain ⟨l, e, rfl⟩ := h
      rw [ih e]; rfl
    | _ => simp [intsD] at h
@[simp] theorem intsD_ofMap (ns : List Int) : intsD (ns.map D.int) = some ns := by
  induction ns with
  | nil => rfl
  | cons n r ih => simp [intsD, ih]
theorem RdL.ints : ∀ {ds : List D} {vs : List V} {F : List Addr} {ns : List Int}, RdL C Z H ds vs F → intsD ds = some ns → vs = ns.map V.int
  | [], _, _, ns, h, e => by rw [RdL] at h; rw [h.1]; cases e; rfl
  | d :: ds, _, _, ns, h, e => by
    rw [RdL] at h
    obtain ⟨v, r, F1, F2, rfl, _, h3, h4⟩ := h
    cases d with
    | int i =>
      rw [intsD, Option.map_eq_some_iff] at e
      obtain ⟨l, e, rfl⟩ := e
      rw [h3.intI, RdL.ints h4 e]; rfl
    | _ => simp [intsD] at e
theorem RdL.bools : ∀ {ds : List D} {vs : List V} {F : List Addr} {ns : List Bool}, RdL C Z H ds vs F → boolsD ds = some ns → vs = ns.map V.bl
  | [], _, _, ns, h, e => by rw [RdL] at h; rw [h.1]; cases e; rfl
  | d :: ds, _, _, ns, h, e => by
    rw [RdL] at h
    obtain ⟨v, r, F1, F2, rfl, _, h3, h4⟩ := h
    cases d with
    | bl i =>
      rw [boolsD, Option.map_eq_some_iff] at e
      obtain ⟨l, e, rfl⟩ := e
      rw [h3.blI, RdL.bools h4 e]; rfl
    | _ => simp [boolsD] at e
theorem RdL.ofInts : ∀ {ns : List Int}, RdL C Z H (ns.map D.int) (ns.map V.int) []
  | [] => RdL.nil0
  | n :: ns => RdL.cons0 rd_int RdL.ofInts
def fLen : List D → Option D
  | [.tup ds] => some (.int ds.length)
  | [.lst _ ds] => some (.int ds.length)
  | [.scr ds] => some (.int ds.length)
  | [.str x] => if x.length ≤ sizeLine then some (.int x.length) else none
  | [.dct _ kvs] => some (.int kvs.length)
  | [.set (.non :: ks)] => some (.int ks.length)
  | [.set ks] => match intsD ks with | some ns => some (.int ns.length) | none => none
  | _ => none
def rLenSetK (P : Program) (w : World) : List V → Hp → VK → Prop := fun xs H Q => ∃ a S n, xs = [V.ref a] ∧ H a = some (SetK P w a S n) ∧ Q (.int (n : Int)) H
theorem call_lenSetK {X : Cx} : CallR X (.builtin "len") (rLenSetK X.prog X.w) := by
  intro pins s σ H xs us Q I r h
  obtain ⟨a, S, n, rfl, ha, q⟩ := h
  rw [Vals.ref1 r]
  obtain ⟨o, es, ep, t, ho, hex, hd, g, hm, hb, hf, hn⟩ := setK_get I ha
  refine call_len_set ho hex hd hf ?_ ⟨.int _, H, I.tok _, ⟨_, rfl⟩, ?_⟩
  · have : es.size < scanBound := hb
    have h2 : scanBound < 2 ^ 63 := by decide
    omega
  · rw [hn]; exact q
def rLenSetO (w : World) : List V → Hp → VK → Prop := fun xs H Q => ∃ a S n, xs = [V.ref a] ∧ H a = some (SetO w a S n) ∧ Q (.int (n : Int)) H
theorem call_lenSetO {X : Cx} : CallR X (.builtin "len") (rLenSetO X.w) := by
  intro pins s σ H xs us Q I r h
  obtain ⟨a, S, n, rfl, ha, q⟩ := h
  rw [Vals.ref1 r]
  obtain ⟨o, es, ep, t, ho, hex, hd, g, hm, hb, hf, hn⟩ := (setO_get I ha).setOf (P := X.prog)
  refine call_len_set ho hex hd hf ?_ ⟨.int _, H, I.tok _, ⟨_, rfl⟩, ?_⟩
  · have : es.size < scanBound := hb
    have h2 : scanBound < 2 ^ 63 := by decide
    omega
  · rw [hn]; exact q
def rLenU (K : PySem.W.Frag) (P : Program) (w : World) : List V → Hp → VK → Prop := fun xs H Q => (rLenS K xs H Q ∨ (∃ z, xs = [.str z] ∧ z.length ≤ sizeLine ∧ Q (.int z.length) H)) ∨
  ((∃ a kvs, xs = [V.ref a] ∧ H a = some (.dK kvs) ∧ Q (.int kvs.length) H) ∨ (rLenSetK P w xs H Q ∨ rLenSetO w xs H Q))
theorem o_len {X : Cx} (C : Ct) (h : X.K = C.K := by rfl) (h2 : X.prog = C.P := by rfl) (h3 : X.w = C.w := by rfl) : CallR X (.builtin "len") (rLenU C.K C.P C.w) := by
  rw [← h, ← h2, ← h3]
  exact CallR.or (CallR.or call_len_seq call_len_str) (CallR.or call_lenD (CallR.or call_lenSetK call_lenSetO))
theorem RdK.length : ∀ {kvs : List (D × D)} {us : List (Key × V)} {F : List Addr}, RdK C Z H kvs us F → kvs.length = us.length
  | [], _, _, h => by rw [RdK] at h; rw [h.1]; rfl
  | (k, d) :: r, _, _, h => by
    rw [RdK] at h
    obtain ⟨q, v, s, F1, F2, rfl, _, _, _, h⟩ := h
    simp [RdK.length h]
theorem f_len : FnL C (rLenU C.K C.P C.w) fLen := by
  intro ds vs Z H F Q e o ra hf p
  unfold fLen at hf
  split at hf
  · obtain ⟨v, F1, rfl, h⟩ := ra.one
    cases hf
    obtain ⟨_, a, us, rfl, h1, h2⟩ := h.tupP o.zh
    exact .inl (.inl ⟨a, us, rfl, .inr h1, by rw [← h2.length]; exact post_val o p rd_int⟩)
  · obtain ⟨v, F1, rfl, h⟩ := ra.one
    cases hf
    obtain ⟨a, us, G, rfl, h1, h2⟩ := h.lstD o.zh rfl
    exact .inl (.inl ⟨a, us, rfl, .inl h1, by rw [← h2.length]; exact post_val o p rd_int⟩)
  · obtain ⟨v, F1, rfl, h⟩ := ra.one
    cases hf
    obtain ⟨a, us, G, rfl, h1, h2⟩ := h.lstD o.zh rfl
    exact .inl (.inl ⟨a, us, rfl, .inl h1, by rw [← h2.length]; exact post_val o p rd_int⟩)
  · split at hf
    · rename_i q
      obtain ⟨v, F1, rfl, h⟩ := ra.one
      cases hf
      exact .inl (.inr ⟨_, by rw [h.strI], q, post_val o p rd_int⟩)
    · cases hf
  · obtain ⟨v, F1, rfl, h⟩ := ra.one
    cases hf
    obtain ⟨a, us, G, rfl, h1, h2⟩ := h.dctP o.zh
    exact .inr (.inl ⟨a, us, rfl, h1, by rw [← h2.length]; exact post_val o p rd_int⟩)
  · obtain ⟨v, F1, rfl, h⟩ := ra.one
    cases hf
    rw [RdV] at h
    obtain ⟨_, a, ob, rfl, h1, h2⟩ := h
    have h1 := o.zh _ _ h1
    rcases h2 with ⟨qs, e, _, rfl⟩ | ⟨ns, e, _, rfl⟩
    · cases e
      refine .inr (.inr (.inl ⟨a, _, _, rfl, h1, ?_⟩))
      rw [List.length_map] at p
      exact post_val o p rd_int
    · cases ns <;> cases e
  · split at hf
    case h_2 => cases hf
    rename_i ns hn
    obtain ⟨v, F1, rfl, h⟩ := ra.one
    cases hf
    rw [RdV] at h
    obtain ⟨_, a, ob, rfl, h1, h2⟩ := h
    have h1 := o.zh _ _ h1
    rcases h2 with ⟨qs, e, _, rfl⟩ | ⟨ms, e, _, rfl⟩
    · subst e
      simp [intsD] at hn
    · subst e
      rw [intsD_ofMap] at hn
      cases hn
      exact .inr (.inr (.inr ⟨a, _, _, rfl, h1, post_val o p rd_int⟩))
  · cases hf
def fAbs : List D → Option D
  | [.int i] => some (.int (if i < 0 then -i else i))
  | _ => none
theorem f_abs : FnL C (fun xs H Q => ∃ i, xs = [.int i] ∧ Q (.int (if i < 0 then -i else i)) H) fAbs := by
  intro ds vs Z H F Q e o ra hf p
  unfold fAbs at hf
  split at hf
  · obtain ⟨v, F1, rfl, h⟩ := ra.one
    cases hf
    exact ⟨_, by rw [h.intI], post_val o p rd_int⟩
  · cases hf
def fMax2 : List D → Option D
  | [.int i, .int j] => some (.int (if j > i then j else i))
  | _ => none
theorem f_max2 : FnL C (fun xs H Q => ∃ i j, xs = [.int i, .int j] ∧ Q (.int (if j > i then j else i)) H) fMax2 := by
  intro ds vs Z H F Q e o ra hf p
  unfold fMax2 at hf
  split at hf
  · obtain ⟨v, F1, w, F2, rfl, h, h2⟩ := ra.two
    cases hf
    exact ⟨_, _, by rw [h.intI, h2.intI], post_val o p rd_int⟩
  · cases hf
def fMin2 : List D → Option D
  | [.int i, .int j] => some (.int (if j < i then j else i))
  | _ => none
theorem f_min2 : FnL C (fun xs H Q => ∃ i j, xs = [.int i, .int j] ∧ Q (.int (if j < i then j else i)) H) fMin2 := by
  intro ds vs Z H F Q e o ra hf p
  unfold fMin2 at hf
  split at hf
  · obtain ⟨v, F1, w, F2, rfl, h, h2⟩ := ra.two
    cases hf
    exact ⟨_, _, by rw [h.intI, h2.intI], post_val o p rd_int⟩
  · cases hf
def fInt : List D → Option D
  | [.int i] => some (.int i)
  | [.bl k] => some (.int (if k then 1 else 0))
  | _ => none
theorem f_int : FnL C (fun xs H Q => (∃ i, xs = [.int i] ∧ Q (.int i) H) ∨ ∃ k, xs = [.bl k] ∧ Q (.int (if k then 1 else 0)) H) fInt := by
  intro ds vs Z H F Q e o ra hf p
  unfold fInt at hf
  split at hf
  · obtain ⟨v, F1, rfl, h⟩ := ra.one
    cases hf
    exact .inl ⟨_, by rw [h.intI], post_val o p rd_int⟩
  · obtain ⟨v, F1, rfl, h⟩ := ra.one
    cases hf
    exact .inr ⟨_, by rw [h.blI], post_val o p rd_int⟩
  · cases hf
/-- a list of ints -/
def lInts : List D → Option (List Int)
  | [.lst _ ds] => intsD ds
  | _ => none
theorem RdA.lInts {ds : List D} {vs : List V} {ns : List Int} (o : Ok Z H F) (ra : RdA C Z H ds vs) (e : Mi.lInts ds = some ns) : ∃ a, vs = [.ref a] ∧ SqL C.K H a (ns.map V.int) := by
  unfold Mi.lInts at e
  split at e
  · obtain ⟨v, F1, rfl, h⟩ := ra.one
    obtain ⟨a, us, G, rfl, h1, h2⟩ := h.lstD o.zh rfl
    exact ⟨a, rfl, by rw [← h2.ints e]; exact h1⟩
  · cases e
def fSum (ds : List D) : Option D := (lInts ds).map fun ns => .int ns.sum
theorem f_sum : FnL C (rSum C.K) fSum := by
  intro ds vs Z H F Q e o ra hf p
  unfold fSum at hf
  rw [Option.map_eq_some_iff] at hf
  obtain ⟨ns, h, rfl⟩ := hf
  obtain ⟨a, rfl, h1⟩ := ra.lInts o h
  exact ⟨a, ns, rfl, h1, post_val o p rd_int⟩
def maxI : List Int → Int
  | [] => 0
  | [n] => n
  | n :: m :: r => max n (maxI (m :: r))
def minI : List Int → Int
  | [] => 0
  | [n] => n
  | n :: m :: r => min n (minI (m :: r))
theorem maxI_spec : ∀ {ns : List Int}, ns ≠ [] → maxI ns ∈ ns ∧ ∀ y ∈ ns, y ≤ maxI ns
  | [], h => absurd rfl h
  | [n], _ => by simp [maxI]
  | n :: m :: r, _ => by
    obtain ⟨h1, h2⟩ := maxI_spec (ns := m :: r) (by simp)
    rw [maxI]
    constructor
    · rcases Int.le_total n (maxI (m :: r)) with q | q
      · rw [Int.max_eq_right q]; exact List.mem_cons_of_mem _ h1
      · rw [Int.max_eq_left q]; exact List.mem_cons_self ..
    · intro y hy
      rcases List.mem_cons.mp hy with rfl | hy
      · exact Int.le_max_left ..
      · exact Int.le_trans (h2 y hy) (Int.le_max_right ..)
theorem minI_spec : ∀ {ns : List Int}, ns ≠ [] → minI ns ∈ ns ∧ ∀ y ∈ ns, minI ns ≤ y
  | [], h => absurd rfl h
  | [n], _ => by simp [minI]
  | n :: m :: r, _ => by
    obtain ⟨h1, h2⟩ := minI_spec (ns := m :: r) (by simp)
    rw [minI]
    constructor
    · rcases Int.le_total n (minI (m :: r)) with q | q
      · rw [Int.min_eq_left q]; exact List.mem_cons_self ..
      · rw [Int.min_eq_right q]; exact List.mem_cons_of_mem _ h1
    · intro y hy
      rcases List.mem_cons.mp hy with rfl | hy
      · exact Int.min_le_left ..
      · exact Int.le_trans (Int.min_le_right ..) (h2 y hy)
theorem maxI_eq {ns : List Int} {m : Int} (h : m ∈ ns) (g : ∀ y ∈ ns, y ≤ m) : m = maxI ns := by
  have hn : ns ≠ [] := fun z => by rw [z] at h; cases h
  obtain ⟨h1, h2⟩ := maxI_spec hn
  exact Int.le_antisymm (h2 m h) (g _ h1)
theorem minI_eq {ns : List Int} {m : Int} (h : m ∈ ns) (g : ∀ y ∈ ns, m ≤ y) : m = minI ns := by
  have hn : ns ≠ [] := fun z => by rw [z] at h; cases h
  obtain ⟨h1, h2⟩ := minI_spec hn
  exact Int.le_antisymm (g _ h1) (h2 m h)
def fMax (ds : List D) : Option D := match lInts ds with | some (n :: r) => some (.int (maxI (n :: r))) | _ => none
def fMin (ds : List D) : Option D := match lInts ds with | some (n :: r) => some (.int (minI (n :: r))) | _ => none
theorem f_max : FnL C (rMax C.K) fMax := by
  intro ds vs Z H F Q e o ra hf p
  unfold fMax at hf
  split at hf
  · rename_i n r h
    cases hf
    obtain ⟨a, rfl, h1⟩ := ra.lInts o h
    refine ⟨a, _, rfl, h1, Nat.succ_pos _, fun m hm hg => ?_⟩
    rw [maxI_eq hm hg]
    exact post_val o p rd_int
  · cases hf
theorem f_min : FnL C (rMin C.K) fMin := by
  intro ds vs Z H F Q e o ra hf p
  unfold fMin at hf
  split at hf
  · rename_i n r h
    cases hf
    obtain ⟨a, rfl, h1⟩ := ra.lInts o h
    refine ⟨a, _, rfl, h1, Nat.succ_pos _, fun m hm hg => ?_⟩
    rw [minI_eq hm hg]
    exact post_val o p rd_int
  · cases hf
def lBools : List D → Option (List Bool)
  | [.lst _ ds] => boolsD ds
  | _ => none
theorem RdA.lBools {ds : List D} {vs : List V} {ns : List Bool} (o : Ok Z H F) (ra : RdA C Z H ds vs) (e : Mi.lBools ds = some ns) : ∃ a, vs = [.ref a] ∧ SqL C.K H a (ns.map V.bl) := by
  unfold Mi.lBools at e
  split at e
  · obtain ⟨v, F1, rfl, h⟩ := ra.one
    obtain ⟨a, us, G, rfl, h1, h2⟩ := h.lstD o.zh rfl
    exact ⟨a, rfl, by rw [← h2.bools e]; exact h1⟩
  · cases e
def fAll (ds : List D) : Option D := (lBools ds).map fun bs => .bl (bs.all id)
def fAny (ds : List D) : Option D := (lBools ds).map fun bs => .bl (bs.any id)
theorem f_all : FnL C (rAll C.K) fAll := by
  intro ds vs Z H F Q e o ra hf p
  unfold fAll at hf
  rw [Option.map_eq_some_iff] at hf
  obtain ⟨ns, h, rfl⟩ := hf
  obtain ⟨a, rfl, h1⟩ := ra.lBools o h
  exact ⟨a, ns, rfl, h1, post_val o p rd_bl⟩
theorem f_any : FnL C (rAny C.K) fAny := by
  intro ds vs Z H F Q e o ra hf p
  unfold fAny at hf
  rw [Option.map_eq_some_iff] at hf
  obtain ⟨ns, h, rfl⟩ := hf
  obtain ⟨a, rfl, h1⟩ := ra.lBools o h
  exact ⟨a, ns, rfl, h1, post_val o p rd_bl⟩
/-! ### sorted -/
def insI (n : Int) : List Int → List Int
  | [] => [n]
  | m :: r => if n ≤ m then n :: m :: r else m :: insI n r
def sortI : List Int → List Int
  | [] => []
  | n :: r => insI n (sortI r)
theorem insI_perm (n : Int) : ∀ l : List Int, (insI n l).Perm (n :: l)
  | [] => List.Perm.refl _
  | m :: r => by
    rw [insI]
    split
    · exact List.Perm.refl _
    · exact (List.Perm.cons m (insI_perm n r)).trans (List.Perm.swap ..)
theorem sortI_perm : ∀ l : List Int, (sortI l).Perm l
  | [] => List.Perm.refl _
  | n :: r => (insI_perm n _).trans (List.Perm.cons n (sortI_perm r))
theorem insI_sorted (n : Int) : ∀ l : List Int, l.Pairwise (· ≤ ·) → (insI n l).Pairwise (· ≤ ·)
  | [], _ => by simp [insI]
  | m :: r, h => by
    rw [insI]
    rw [List.pairwise_cons] at h
    split
    · rename_i q
      refine List.pairwise_cons.mpr ⟨fun y hy => ?_, List.pairwise_cons.mpr h⟩
      rcases List.mem_cons.mp hy with rfl | hy
      · exact q
      · exact Int.le_trans q (h.1 y hy)
    · rename_i q
      refine List.pairwise_cons.mpr ⟨fun y hy => ?_, insI_sorted n r h.2⟩
      rcases List.mem_cons.mp ((insI_perm n r).mem_iff.mp hy) with rfl | hy
      · omega
      · exact h.1 y hy
theorem sortI_sorted : ∀ l : List Int, (sortI l).Pairwise (· ≤ ·)
  | [] => List.Pairwise.nil
  | n :: r => insI_sorted n _ (sortI_sorted r)
theorem sorted_uniq : ∀ {a b : List Int}, a.Perm b → a.Pairwise (· ≤ ·) → b.Pairwise (· ≤ ·) → a = b
  | [], b, p, _, _ => (List.nil_perm.mp p).symm
  | x :: a, b, p, ha, hb => by
    cases b with
    | nil => exact absurd (List.perm_nil.mp p) (by simp)
    | cons y b =>
      rw [List.pairwise_cons] at ha hb
      have h1 : x ∈ y :: b := p.mem_iff.mp (List.mem_cons_self ..)
      have h2 : y ∈ x :: a := p.mem_iff.mpr (List.mem_cons_self ..)
      have e : x = y := by
        rcases List.mem_cons.mp h1 with q | q
        · exact q
        · rcases List.mem_cons.mp h2 with z | z
          · exact z.symm
          · exact Int.le_antisymm (ha.1 y z) (hb.1 x q)
      subst e
      rw [sorted_uniq (List.Perm.cons_inv p) ha.2 hb.2]
/-- a list, a dict or a set of ints -/
def fSorted : List D → Option D
  | [.lst _ ds] => (intsD ds).map fun ns => .lst true ((sortI ns).map .int)
  | [.dct _ kvs] => match intsD (kvs.map (·.1)) with | some ns => if ns.length < 64 then some (.lst true ((sortI ns).map .int)) else none | none => none
  | [.set ks] => match intsD ks with | some ns => if ns.length < 64 then some (.lst true ((sortI ns).map .int)) else none | none => none
  | _ => none
theorem RdK.keys : ∀ {kvs : List (D × D)} {us : List (Key × V)} {F : List Addr} {ns : List Int}, RdK C Z H kvs us F → intsD (kvs.map (·.1)) = some ns → us.map (·.1) = ns.map Sum.inl
  | [], _, _, ns, h, e => by rw [RdK] at h; rw [h.1]; cases e; rfl
  | (k, d) :: r, _, _, ns, h, e => by
    rw [RdK] at h
    obtain ⟨q, v, s, F1, F2, rfl, _, rfl, _, h⟩ := h
    cases q with
    | inl i =>
      rw [List.map_cons, kD, intsD, Option.map_eq_some_iff] at e
      obtain ⟨l, e, rfl⟩ := e
      rw [List.map_cons, RdK.keys h e]; rfl
    | inr x => simp [kD, intsD] at e
def rSortedU (K : PySem.W.Frag) (w : World) : List V → Hp → VK → Prop := fun xs H Q => rSortedI K xs H Q ∨ ((∃ (a : Addr) (kvs : List (Key × V)) (ks : List Int), xs = [.ref a] ∧ Rd H a (.dK kvs) ∧ kvs.map (·.1) = ks.map Sum.inl ∧ ks.length < 64 ∧
    ∀ (ys : List Int) (p : Addr), ys.Perm ks → ys.Pairwise (· ≤ ·) → H p = none → Q (.ref p) (upd H p (.lst (ys.map V.int)))) ∨ rSortedSet w xs H Q)
theorem o_sorted {X : Cx} (C : Ct) (hc : X.calm = true := by rfl) (h : X.K = C.K := by rfl) (h3 : X.w = C.w := by rfl) : CallR X (.builtin "sorted") (rSortedU C.K C.w) := by
  rw [← h, ← h3]
  exact CallR.or cr_sortedI (CallR.or (call_sortedDI hc) (cr_sortedSet hc))
theorem f_sorted : FnL C (rSortedU C.K C.w) fSorted := by
  intro ds vs Z H F Q e o ra hf p
  unfold fSorted at hf
  split at hf
  · rw [Option.map_eq_some_iff] at hf
    obtain ⟨ns, h, rfl⟩ := hf
    obtain ⟨a, rfl, h1⟩ := ra.lInts o h
    refine .inl ⟨a, ns, rfl, h1, fun ns' q pm so hq => ?_⟩
    rw [sorted_uniq (pm.trans (sortI_perm ns).symm) so (sortI_sorted ns)]
    exact post_lst o p hq RdL.ofInts
  · split at hf
    · rename_i ns h
      split at hf
      · rename_i h64
        cases hf
        obtain ⟨v, F1, rfl, hd⟩ := ra.one
        obtain ⟨a, us, G, rfl, h1, h2⟩ := hd.dctP o.zh
        refine .inr (.inl ⟨a, us, ns, rfl, .inl h1, h2.keys h, h64, fun ns' q pm so hq => ?_⟩)
        rw [sorted_uniq (pm.trans (sortI_perm ns).symm) so (sortI_sorted ns)]
        exact post_lst o p hq RdL.ofInts
      · cases hf
    · cases hf
  · split at hf
    · rename_i ns h
      split at hf
      · rename_i h64
        cases hf
        obtain ⟨v, F1, rfl, hd⟩ := ra.one
        rw [RdV] at hd
        obtain ⟨_, a, ob, rfl, h1, h2⟩ := hd
        have h1 := o.zh _ _ h1
        have hk := intsD_map h
        rcases h2 with ⟨qs, e1, _, rfl⟩ | ⟨ms, e1, nd, rfl⟩
        · exfalso
          rw [e1] at hk
          cases ns <;> cases hk
        · have em : ms = ns := by
            rw [hk] at e1
            have := congrArg intsD e1
            simpa using this.symm
          subst em
          refine .inr (.inr ⟨a, _, _, rfl, h1, h64, fun ns' q so mem len hq => ?_⟩)
          have so2 : ns'.Pairwise (· ≤ ·) := so.imp fun h => Int.le_of_lt h
          have nd2 : ns'.Nodup := so.imp fun h => Int.ne_of_lt h
          have pm : ns'.Perm ms := by
            refine (List.perm_ext_iff_of_nodup nd2 nd).mpr fun k => ?_
            rw [mem]
            simp
          rw [sorted_uniq (pm.trans (sortI_perm ms).symm) so2 (sortI_sorted ms)]
          exact post_lst o p hq RdL.ofInts
      · cases hf
    · cases hf
  · cases hf
/-! ### tuple, list, repr, isinstance -/
def fTuple : List D → Option D
  | [.tup ds] => some (.tup ds)
  | [.lst _ ds] => if fznL ds then some (.tup ds) else none
  | _ => none
theorem f_tuple : FnL C (fun xs H Q => ∃ p ys, xs = [.ref p] ∧ ((SqL C.K H p ys ∧ ∀ l, H l = none → Q (.ref l) (upd H l (.tup ys))) ∨ (SqT C.K H p ys ∧ Q (.ref p) H))) fTuple := by
  intro ds vs Z H F Q e o ra hf p
  unfold fTuple at hf
  split at hf
  · obtain ⟨v, F1, rfl, hd⟩ := ra.one
    cases hf
    have h0 := hd
    obtain ⟨_, a, us, rfl, h1, h2⟩ := hd.tupP o.zh
    refine ⟨a, us, rfl, .inr ⟨h1, post_val o p ?_⟩⟩
    rw [RdV] at h0 ⊢
    exact ⟨rfl, h0.2⟩
  · split at hf
    · rename_i q
      cases hf
      obtain ⟨v, F1, rfl, hd⟩ := ra.one
      obtain ⟨a, us, G, rfl, h1, h2⟩ := hd.lstD o.zh rfl
      exact ⟨a, us, rfl, .inl ⟨h1, fun l hl => post_tup o p hl (h2.nof q)⟩⟩
    · cases hf
  · cases hf
theorem o_tuple {X : Cx} (K : PySem.W.Frag) (h : X.K = K := by rfl) : CallR X (.type "tuple") (fun xs H Q => ∃ p ys, xs = [.ref p] ∧ ((SqL K H p ys ∧ ∀ l, H l = none → Q (.ref l) (upd H l (.tup ys))) ∨ (SqT K H p ys ∧ Q (.ref p) H))) := h ▸ call_tuple_of
def fList : List D → Option D
  | [.tup ds] => if fznL ds then some (.lst true ds) else none
  | [.lst _ ds] => if fznL ds then some (.lst true ds) else none
  | _ => none
theorem f_list : FnL C (rListU C.K) fList := by
  intro ds vs Z H F Q e o ra hf p
  unfold fList at hf
  split at hf
  · split at hf
    · rename_i q
      cases hf
      obtain ⟨v, F1, rfl, hd⟩ := ra.one
      obtain ⟨_, a, us, rfl, h1, h2⟩ := hd.tupP o.zh
      exact ⟨a, us, rfl, .inr h1, fun l hl => post_lst o p hl h2⟩
    · cases hf
  · split at hf
    · rename_i q
      cases hf
      obtain ⟨v, F1, rfl, hd⟩ := ra.one
      obtain ⟨a, us, G, rfl, h1, h2⟩ := hd.lstD o.zh rfl
      exact ⟨a, us, rfl, .inl h1, fun l hl => post_lst o p hl (h2.nof q)⟩
    · cases hf
  · cases hf
def fRepr : List D → Option D
  | [d] => match toPy d with
    | some p => if p.showable && decide (p.depth ≤ 60) && decide (p.shown.length ≤ sizeLine) then some (.str p.shown) else none
    | none => none
  | _ => none
theorem f_repr : FnL C (fun xs H Q => ∃ x d, xs = [x] ∧ Dp C.K H x d ∧ d.showable = true ∧ d.depth ≤ 60 ∧ d.shown.length ≤ sizeLine ∧ Q (.str d.shown) H) fRepr := by
  intro ds vs Z H F Q e o ra hf p
  unfold fRepr at hf
  split at hf
  · split at hf
    · rename_i d pd hp
      split at hf
      · rename_i q
        cases hf
        simp only [Bool.and_eq_true, decide_eq_true_eq] at q
        obtain ⟨v, F1, rfl, hd⟩ := ra.one
        exact ⟨v, pd, rfl, RdV.dp o.zh _ v F1 pd hp hd, q.1.1, q.1.2, q.2, post_val o p rd_str⟩
      · cases hf
    · cases hf
  · cases hf
def kdD : D → Option Kd
  | .non => some .non
  | .bl _ => some .bl
  | .int _ => some .int
  | .str _ => some .str
  | .lst _ _ => some .lst
  | .scr _ => some .lst
  | .tup _ => some .tup
  | .dct _ _ => some .dic
  | _ => none
theorem RdV.kd {d : D} {v : V} {k : Kd} (o : Ok Z H G) (h : RdV C Z H d v F) (e : kdD d = some k) : HasKd C.K H v k := by
  cases d with
  | non => cases e; rw [h.nonI]; exact .non
  | bl b => cases e; rw [h.blI]; exact .bl b
  | int b => cases e; rw [h.intI]; exact .int b
  | str b => cases e; rw [h.strI]; exact .str b
  | lst ow ds => cases e; obtain ⟨a, us, G, rfl, h1, h2⟩ := h.lstD o.zh rfl; exact .lst h1
  | scr ds => cases e; obtain ⟨a, us, G, rfl, h1, h2⟩ := h.lstD o.zh rfl; exact .lst h1
  | tup ds => cases e; obtain ⟨_, a, us, rfl, h1, h2⟩ := h.tupP o.zh; exact .tup h1
  | dct ow ds => cases e; obtain ⟨a, us, G, rfl, h1, h2⟩ := h.dctP o.zh; exact .dic h1
  | _ => cases e
/-- isinstance(x, T), T a built-in class: its name stands for it -/
def fIsa (f : Kd → Bool) : D → Option D := fun d => (kdD d).map fun k => .bl (f k)
end
end Mi

set_option maxHeartbeats 4000000
namespace Mi
open PySem PySem.Spec PyProof.Rows L2 RZ Ov

section
variable {N : Cn} {C : Ct} {Z H Z' H' : Hp} {F F' G Fv : List Addr} {σ : L2.St}
/-! ### attributes -/
def FldOk (C : Ct) (c f : String) : Prop := ∃ Ca, C.cls c = some Ca ∧ Cls C.K Ca ∧ NoAttr C.K Ca (PySem.Str.ofString f)
def eFld (cs : List String) (f : String) (m : ME) : ME := fun env => (m env).bind fun d e => match d with
  | .ins _ c fs => if cs.contains c then lift (fs.lookup f) e else .no
  | _ => .no
theorem rt_fld {st : Bool} {cs : List String} {f : String} {t : TE} {m : ME} (hc : ∀ c ∈ cs, FldOk N.C c f) (h : RefT N st t m) : RefT N st (tFld N.C.K t (PySem.Str.ofString f)) (eFld cs f m) := fun env σ Z H F Q o re w => by
  refine h env σ Z H F _ o re (w.bind.mono (Pin.refl _ _) (Ext.refl o) ?_)
  intro d env1 k v Z1 H1 Fd F1 x rd r1 sm
  cases d with
  | ins ow c fs =>
    by_cases hcc : cs.contains c = true
    · simp only [hcc, if_true] at k
      obtain ⟨e, he⟩ := wp_lift k
      rw [he] at k
      obtain ⟨a, Ca, dx, us, G, rfl, h2, h3, h4⟩ := rd.inst x.ok.zh
      obtain ⟨u, F1', F2', g1, g2, _⟩ := h4.get he
      obtain ⟨Cb, q1, q2, q3⟩ := hc c (by simpa using hcc)
      rw [h2] at q1
      cases q1
      exact ⟨a, Ca, dx, us, u, rfl, h3, q2, q3, g1, k u Z1 H1 F1' F1 x g2 r1 sm⟩
    · simp only [hcc] at k
      exact k.elim
  | _ => exact k.elim
/-! ### places: a name, an attribute of a name -/
def putD (f : String) (d : D) : List (String × D) → List (String × D)
  | [] => [(f, d)]
  | (g, x) :: r => if g = f then (g, d) :: r else (g, x) :: putD f d r
abbrev Plc := Nat × Option (List String × String)
def getP (env : Env) : Plc → Option D
  | (i, none) => match env[i]? with | some (some d) => some d | _ => none
  | (i, some (cs, f)) => match env[i]? with | some (some (.ins true c fs)) => if cs.contains c then fs.lookup f else none | _ => none
def setP (env : Env) : Plc → D → Env
  | (i, none), e => env.set i (some e)
  | (i, some (_, f)), e => match env[i]? with | some (some (.ins o c fs)) => env.set i (some (.ins o c (putD f e fs))) | _ => env
def tPlc (K : PySem.W.Frag) : Plc → TE
  | (i, none) => tVar i
  | (i, some (_, f)) => tFld K (tVar i) (PySem.Str.ofString f)
def PlcOk (C : Ct) : Plc → Prop
  | (_, none) => True
  | (_, some (cs, f)) => ∀ c ∈ cs, FldOk C c f
/-- what stands at a place -/
def ReadP (C : Ct) (H : Hp) (σ : L2.St) : Plc → V → Prop
  | (i, none), u => σ[i]? = some (some u)
  | (i, some (_, f)), u => ∃ a Ca dx us, σ[i]? = some (some (.ref a)) ∧ H a = some (.ins Ca dx us) ∧ Cls C.K Ca ∧ NoAttr C.K Ca (PySem.Str.ofString f) ∧ us.lookup (PySem.Str.ofString f) = some u
theorem readP {p : Plc} {u : V} {Q : VK} (h : ReadP C H σ p u) (q : Q u H) : tPlc C.K p σ H Q := by
  rcases p with ⟨i, _ | ⟨cs, f⟩⟩
  · exact ⟨u, h, q⟩
  · obtain ⟨a, Ca, dx, us, h1, h2, h3, h4, h5⟩ := h
    exact ⟨.ref a, h1, a, Ca, dx, us, u, rfl, h2, h3, h4, h5, q⟩
theorem ReadP.uniq {p : Plc} {u u' : V} (s : Same H H') (h : ReadP C H σ p u) (h' : ReadP C H' σ p u') : u' = u := by
  rcases p with ⟨i, _ | ⟨cs, f⟩⟩
  · have h : σ[i]? = some (some u) := h
    have h' : σ[i]? = some (some u') := h'
    rw [h] at h'
    cases h'
    rfl
  · obtain ⟨a, Ca, dx, us, h1, h2, h3, h4, h5⟩ := h
    obtain ⟨a', Ca', dx', us', g1, g2, g3, g4, g5⟩ := h'
    rw [h1] at g1
    cases g1
    rw [s _ _ h2] at g2
    cases g2
    rw [h5] at g5
    cases g5
    rfl
theorem ReadP.uniqV {i : Nat} {u u' : V} (h : ReadP C H σ (i, none) u) (h' : ReadP C H' σ (i, none) u') : u' = u := by
  have h : σ[i]? = some (some u) := h
  have h' : σ[i]? = some (some u') := h'
  rw [h] at h'
  cases h'
  rfl
theorem RdF.mono' (sz : Same Z Z') {fs : List (String × D)} {us : List (Str × V)} (h : ∀ a ∈ F, H' a = H a) (r : RdF C Z H fs us F) : RdF C Z' H' fs us F := RdF.mono sz fs us F h r
theorem RdF.focus : ∀ {fs : List (String × D)} {us : List (Str × V)} {F : List Addr} {f : String} {e : D}, RdF C Z H fs us F → fs.lookup f = some e →
    ∃ u Fe Fr, us.lookup (PySem.Str.ofString f) = some u ∧ RdV C Z H e u Fe ∧ F.Perm (Fe ++ Fr) ∧
      ∀ H' e' Fe', (∀ b ∈ Fr, H' b = H b) → RdV C Z H' e' u Fe' → ∃ F', F'.Perm (Fe' ++ Fr) ∧ RdF C Z H' (putD f e' fs) us F'
  | [], us, F, f, e, h, q => by cases q
  | (k, d0) :: fs, us, F, f, e, h, q => by
    rw [RdF] at h
    obtain ⟨v, s, F1, F2, rfl, rfl, rv, h⟩ := h
    rw [List.lookup] at q
    by_cases z : f = k
    · subst z
      rw [beq_self_eq_true] at q
      cases q
      refine ⟨v, F1, F2, by rw [List.lookup, beq_self_eq_true], rv, List.Perm.refl _, fun H' e' Fe' hb r' => ⟨Fe' ++ F2, List.Perm.refl _, ?_⟩⟩
      rw [putD, if_pos rfl, RdF]
      exact ⟨v, s, Fe', F2, rfl, rfl, r', RdF.mono' (Same.refl _) hb h⟩
    · have q1 : (f == k) = false := beq_eq_false_iff_ne.mpr z
      rw [q1] at q
      obtain ⟨u, Fe, Fr, h1, h2, h3, h4⟩ := RdF.focus h q
      have q2 : (PySem.Str.ofString f == PySem.Str.ofString k) = false := beq_eq_false_iff_ne.mpr fun y => z (ofString_inj y)
      refine ⟨u, Fe, F1 ++ Fr, by rw [List.lookup, q2]; exact h1, h2, ?_, fun H' e' Fe' hb r' => ?_⟩
      · refine (List.Perm.append_left F1 h3).trans ?_
        rw [← List.append_assoc, ← List.append_assoc]
        exact List.Perm.append_right Fr List.perm_append_comm
      · obtain ⟨F', g1, g2⟩ := h4 H' e' Fe' (fun b hb' => hb b (List.mem_append_right _ hb')) r'
        refine ⟨F1 ++ F', ?_, ?_⟩
        · refine (List.Perm.append_left F1 g1).trans ?_
          rw [← List.append_assoc, ← List.append_assoc]
          exact List.Perm.append_right Fr List.perm_append_comm
        · rw [putD, if_neg (Ne.symm z), RdF]
          exact ⟨v, s, F1, F', rfl, rfl, RdV.mono (Same.refl _) d0 v F1 (fun b hb' => hb b (List.mem_append_left _ hb')) rv, g2⟩
theorem lt_of_get {env : Env} {i : Nat} {x : Option D} (e : env[i]? = some x) : i < env.length := by
  rcases Nat.lt_or_ge i env.length with z | z
  · exact z
  · rw [List.getElem?_eq_none z] at e; cases e
theorem focus {env : Env} {p : Plc} {e : D} (hp : PlcOk C p) (r : RdE C Z H env σ F) (h : getP env p = some e) :
    ∃ u Fe Fr, ReadP C H σ p u ∧ RdV C Z H e u Fe ∧ F.Perm (Fe ++ Fr) ∧
      ∀ H' e' Fe', (∀ b ∈ Fr, H' b = H b) → RdV C Z H' e' u Fe' → ∃ F', F'.Perm (Fe' ++ Fr) ∧ RdE C Z H' (setP env p e') σ F' := by
  rcases p with ⟨i, _ | ⟨cs, f⟩⟩
  · change (match env[i]? with | some (some d) => some d | _ => none) = some e at h
    split at h
    · rename_i d q
      cases h
      obtain ⟨v, F1, F2, h1, h2, h3, h4⟩ := r.take q
      refine ⟨v, F1, F2, h1, h2, h3, fun H' e' Fe' hb r' => ?_⟩
      have h4' : RdE C Z H' (env.set i none) σ F2 := RdE.mono (Same.refl _) hb h4
      obtain ⟨F3, g1, g2⟩ := RdE.put (i := i) h4' (lt_of_get q) r'
      rw [set_same (env := env) h1] at g2
      exact ⟨F3, g1, g2⟩
    · cases h
  · change (match env[i]? with | some (some (.ins true c fs)) => if cs.contains c then fs.lookup f else none | _ => none) = some e at h
    split at h
    · rename_i c fs q
      split at h
      · rename_i hcc
        obtain ⟨v, F1, F2, h1, h2, h3, h4⟩ := r.take q
        rw [RdV] at h2
        obtain ⟨a, Ca, dx, us, G, rfl, h5, h6, rfl, h7⟩ := h2
        obtain ⟨u, Fe, Fr, g1, g2, g3, g4⟩ := RdF.focus h7 h
        obtain ⟨Cb, q1, q2, q3⟩ := hp c (by simpa using hcc)
        rw [h5] at q1
        cases q1
        refine ⟨u, Fe, a :: (Fr ++ F2), ⟨a, Ca, dx, us, h1, h6, q2, q3, g1⟩, g2, ?_, fun H' e' Fe' hb r' => ?_⟩
        · refine h3.trans ?_
          rw [List.cons_append]
          refine (List.Perm.cons a (List.Perm.append_right F2 g3)).trans ?_
          rw [List.append_assoc]
          exact List.perm_middle.symm
        · have hba : H' a = H a := hb a (List.mem_cons_self ..)
          have hbr : ∀ b ∈ Fr, H' b = H b := fun b hb' => hb b (List.mem_cons_of_mem _ (List.mem_append_left _ hb'))
          have hb2 : ∀ b ∈ F2, H' b = H b := fun b hb' => hb b (List.mem_cons_of_mem _ (List.mem_append_right _ hb'))
          obtain ⟨F3, k1, k2⟩ := g4 H' e' Fe' hbr r'
          have h4' : RdE C Z H' (env.set i none) σ F2 := RdE.mono (Same.refl _) hb2 h4
          have hv : RdV C Z H' (.ins true c (putD f e' fs)) (.ref a) (a :: F3) := by
            rw [RdV]
            exact ⟨a, Ca, dx, us, F3, rfl, h5, by rw [hba]; exact h6, rfl, k2⟩
          obtain ⟨F4, j1, j2⟩ := RdE.put (i := i) h4' (lt_of_get q) hv
          rw [set_same (env := env) h1] at j2
          refine ⟨F4, ?_, ?_⟩
          · refine j1.trans ?_
            rw [List.cons_append]
            refine (List.Perm.cons a (List.Perm.append_right F2 k1)).trans ?_
            rw [List.append_assoc]
            exact List.perm_middle.symm
          · have es : setP env (i, some (cs, f)) e' = env.set i (some (.ins true c (putD f e' fs))) := by
              show (match env[i]? with | some (some (.ins o c fs)) => env.set i (some (.ins o c (putD f e' fs))) | _ => env) = _
              rw [q]
            rw [es]
            exact j2
      · cases h
    · cases h
/-- the thing at a place is changed: it takes in what was held -/
theorem change {env : Env} {p : Plc} {e e' : D} {u : V} {a : Addr} {ob : HO} (hp : PlcOk C p) (o : Ok Z H (Fv ++ F)) (r : RdE C Z H env σ F) (h : getP env p = some e) (hu : ReadP C H σ p u)
    (k : ∀ Fe, RdV C Z H e u Fe → ∃ Fe', a ∈ Fe ∧ Fe'.Perm (Fv ++ Fe) ∧ (a ∉ Fv → Fe.Nodup → RdV C Z (upd H a ob) e' u Fe')) :
    ∃ F', Ext Z H (Fv ++ F) Z (upd H a ob) F' ∧ RdE C Z (upd H a ob) (setP env p e') σ F' := by
  obtain ⟨u', Fe, Fr, h1, h2, h3, h4⟩ := focus hp r h
  have := ReadP.uniq (Same.refl _) hu h1
  subst this
  obtain ⟨Fe', g1, g2, g3⟩ := k Fe h2
  have nd := o.nd
  have pm : (Fv ++ F).Perm (Fv ++ (Fe ++ Fr)) := List.Perm.append_left Fv h3
  have nd2 := pm.nodup_iff.mp nd
  have haF : a ∈ F := h3.mem_iff.mpr (List.mem_append_left _ g1)
  have na : a ∉ Fv := fun z => (List.nodup_append.mp nd).2.2 a z a haF rfl
  have nr : a ∉ Fr := fun z => (List.nodup_append.mp (nodup_right nd2)).2.2 a g1 a z rfl
  obtain ⟨F', k1, k2⟩ := h4 (upd H a ob) e' Fe' (fun b hb => upd_ne fun z : b = a => nr (by rw [← z]; exact hb)) (g3 na (nodup_left (nodup_right nd2)))
  have pm2 : F'.Perm (Fv ++ F) := by
    refine k1.trans ((List.Perm.append_right Fr g2).trans ?_)
    rw [List.append_assoc]
    exact pm.symm
  refine ⟨F', (Ext.mut o (List.mem_append_right _ haF)).sub (pm2.nodup_iff.mpr nd) fun b hb => pm2.mem_iff.mp hb, k2⟩
/-! ### x.append(e) -/
theorem PlcOk.v {i : Nat} : PlcOk C (i, none) := True.intro
def plcSt (p : Plc) (st : Bool) : Bool := st || p.2.isNone
theorem place_same {st : Bool} {env1 : Env} {p : Plc} {u : V} {e1 : D} {Z1 H1 : Hp} {F1 : List Addr} (hp : PlcOk C p) (hs : plcSt p st = true) (g1 : ReadP C H σ p u) (r1 : RdE C Z1 H1 env1 σ F1) (q1 : getP env1 p = some e1) (sm : st = true → Same H H1) : ReadP C H1 σ p u := by
  obtain ⟨u', _, _, j1, _⟩ := focus hp r1 q1
  have : u' = u := by
    rcases p with ⟨i, _ | ⟨cs, f⟩⟩
    · exact ReadP.uniqV g1 j1
    · exact ReadP.uniq (sm (by simpa [plcSt] using hs)) g1 j1
  subst this
  exact j1
/-- a method of a list at a place, with arguments -/
def mList (p : Plc) (m : ML) (f : List D → List D → Option (D × List D)) : ME := fun env => match getP env p with
  | some (.lst true _) => (m env).bind fun as e => match getP e p with
    | some (.lst true ds) => (match f ds as with | some (d, ds') => .ok d (setP e p (.lst true ds')) | none => .no)
    | _ => .no
  | _ => .no
/-- what such a method may do: what it hands back is frozen, or was held -/
def FnM (C : Ct) (r : V → List V → Hp → VK → Prop) (f : List D → List D → Option (D × List D)) : Prop := ∀ ds as d ds' vs us G Fv Z H l Q, f ds as = some (d, ds') → Ok Z H (Fv ++ (l :: G)) → H l = some (.lst vs) → RdL C Z H ds vs G → RdL C Z H as us Fv →
  (∀ vs' v Fd G', H l = some (.lst vs) → (Fd ++ G').Nodup → (∀ a ∈ Fd ++ G', a ∈ Fv ++ G) → RdL C Z H ds' vs' G' → RdV C Z H d v Fd → Q v (upd H l (.lst vs'))) → r (.ref l) us H Q
theorem re_list {st : Bool} {p : Plc} {r : V → List V → Hp → VK → Prop} {f : List D → List D → Option (D × List D)} {t : TA} {m : ML} (hf : FnM N.C r f) (hp : PlcOk N.C p) (h : RefA N st t m) (hs : plcSt p st = true) :
    RefE N false (tBM N.C.K "list" r (tPlc N.C.K p) t) (mList p m f) := fun env σ Z H F Q o re w => by
  unfold mList at w
  split at w
  · rename_i ds0 q0
    obtain ⟨u, Fe, Fr, g1, g2, g3, g4⟩ := focus hp re q0
    refine readP g1 ⟨?_, ?_⟩
    · obtain ⟨a, vs, G, rfl, h1, h2⟩ := g2.lstD o.zh rfl
      exact .inl ⟨rfl, _, h1⟩
    refine h env σ Z H F _ o re (w.bind.mono (Pin.refl _ _) (Ext.refl o) ?_)
    intro as env1 k us Z1 H1 Fv F1 x1 rv r1 sm1
    split at k
    · rename_i ds q1
      have hu := place_same hp hs g1 r1 q1 sm1
      obtain ⟨u', Fe1, Fr1, j1, j2, j3, j4⟩ := focus hp r1 q1
      have eu := ReadP.uniq (Same.refl _) hu j1
      subst eu
      cases hfd : f ds as with
      | none => simp only [hfd] at k; exact k.elim
      | some pr =>
      obtain ⟨d, ds'⟩ := pr
      simp only [hfd] at k
      rw [RdV] at j2
      obtain ⟨l, vs, G, rfl, e1, rfl, e3⟩ := j2
      have pm : (Fv ++ F1).Perm (Fv ++ ((l :: G) ++ Fr1)) := List.Perm.append_left Fv j3
      have nd2 := pm.nodup_iff.mp x1.ok.nd
      have o2 : Ok Z1 H1 (Fv ++ (l :: G)) := x1.ok.sub (by rw [← List.append_assoc] at nd2; exact nodup_left nd2) fun a ha => by
        refine pm.mem_iff.mpr ?_
        rw [← List.append_assoc]
        exact List.mem_append_left _ ha
      refine hf ds as d ds' vs us G Fv Z1 H1 l Q hfd o2 e1 e3 rv ?_
      intro vs' v Fd G' _ ndd sub rl rd
      have nl : l ∉ Fv ++ G := fun z => by
        have := o2.nd
        rw [List.nodup_append] at this
        rcases List.mem_append.mp z with z | z
        · exact this.2.2 l z l (List.mem_cons_self ..) rfl
        · exact (List.nodup_cons.mp this.2.1).1 z
      have nl' : l ∉ Fd ++ G' := fun z => nl (sub l z)
      have nr : l ∉ Fr1 := fun z => by
        have := nodup_right nd2
        exact (List.nodup_append.mp this).2.2 l (List.mem_cons_self ..) l z rfl
      obtain ⟨F3, k1, k2⟩ := j4 (upd H1 l (.lst vs')) (.lst true ds') (l :: G') (fun b hb => upd_ne fun z : b = l => nr (by rw [← z]; exact hb)) (by
        rw [RdV]
        exact ⟨l, vs', G', rfl, upd_same, rfl, rl.mut fun z => nl' (List.mem_append_right _ z)⟩)
      have hmem : l ∈ Fv ++ F1 := pm.mem_iff.mpr (by simp)
      have x2 := Ext.mut (o := .lst vs') x1.ok hmem
      refine k v Z1 _ Fd F3 (x1.trans (x2.sub ?_ fun a ha => ?_)) (rd.mut fun z => nl' (List.mem_append_left _ z)) k2 fun z => by cases z
      · have pm3 : (Fd ++ F3).Perm (l :: ((Fd ++ G') ++ Fr1)) := by
          refine (List.Perm.append_left Fd k1).trans ?_
          rw [List.cons_append]
          refine List.perm_middle.trans ?_
          rw [List.append_assoc]
        refine pm3.nodup_iff.mpr (List.nodup_cons.mpr ⟨fun z => ?_, List.nodup_append.mpr ⟨ndd, nodup_right (nodup_right nd2), fun a ha b hb e => ?_⟩⟩)
        · rcases List.mem_append.mp z with z | z
          · exact nl' z
          · exact nr z
        · subst e
          rcases List.mem_append.mp (sub a ha) with z | z
          · exact (List.nodup_append.mp nd2).2.2 a z a (List.mem_append_right _ hb) rfl
          · exact (List.nodup_append.mp (nodup_right nd2)).2.2 a (List.mem_cons_of_mem _ z) a hb rfl
      · refine pm.mem_iff.mpr ?_
        rcases List.mem_append.mp ha with z | z
        · rcases List.mem_append.mp (sub a (List.mem_append_left _ z)) with y | y
          · exact List.mem_append_left _ y
          · exact List.mem_append_right _ (List.mem_append_left _ (List.mem_cons_of_mem _ y))
        · rcases List.mem_append.mp (k1.mem_iff.mp z) with y | y
          · rcases List.mem_cons.mp y with y | y
            · subst y; simp
            · rcases List.mem_append.mp (sub a (List.mem_append_right _ y)) with y | y
              · exact List.mem_append_left _ y
              · exact List.mem_append_right _ (List.mem_append_left _ (List.mem_cons_of_mem _ y))
          · exact List.mem_append_right _ (List.mem_append_right _ y)
    · exact k.elim
  · exact w.elim
def fAppend : List D → List D → Option (D × List D)
  | ds, [d] => if ds.length < sizeLine then some (.non, ds ++ [d]) else none
  | _, _ => none
theorem m_append : FnM C rAppend fAppend := by
  intro ds as d ds' vs us G Fv Z H l Q hf o hl rl ra k
  unfold fAppend at hf
  split at hf
  · rename_i x
    split at hf
    · rename_i hz
      cases hf
      rw [RdL] at ra
      obtain ⟨v, r, F1, F2, rfl, rfl, rv, ra⟩ := ra
      rw [RdL] at ra
      obtain ⟨rfl, rfl⟩ := ra
      refine ⟨l, vs, v, rfl, rfl, hl, by rw [← rl.length]; exact hz, ?_⟩
      have nd := o.nd
      rw [List.append_nil] at nd
      have nd' := List.nodup_append.mp nd
      refine k (vs ++ [v]) .non [] (G ++ F1) hl ?_ ?_ (RdL.snoc rl rv) rd_non
      · rw [List.nil_append]
        refine List.nodup_append.mpr ⟨(List.nodup_cons.mp nd'.2.1).2, nd'.1, fun a ha b hb e => ?_⟩
        subst e
        exact nd'.2.2 a hb a (List.mem_cons_of_mem _ ha) rfl
      · intro a ha
        simp only [List.nil_append, List.mem_append, List.append_nil] at ha ⊢
        exact ha.symm
    · cases hf
  · cases hf
/-- xs.extend(ys): ys a list that holds no owned node -/
def fExtend : List D → List D → Option (D × List D)
  | ds, [.lst _ es] => if ds.length + es.length ≤ sizeLine ∧ fznL es = true then some (.non, ds ++ es) else none
  | _, _ => none
theorem RdL.appG : ∀ {ds es : List D} {vs us : List V} {G : List Addr}, RdL C Z H ds vs G → RdL C Z H es us [] → RdL C Z H (ds ++ es) (vs ++ us) G
  | [], es, vs, us, G, h, h2 => by rw [RdL] at h; rw [h.1, h.2]; exact h2
  | d :: ds, es, vs, us, G, h, h2 => by
    rw [RdL] at h
    obtain ⟨v, r, F1, F2, rfl, rfl, h3, h4⟩ := h
    rw [List.cons_append, List.cons_append, RdL]
    exact ⟨v, r ++ us, F1, F2, rfl, rfl, h3, RdL.appG h4 h2⟩
theorem m_extend : FnM C rExtend fExtend := by
  intro ds as d ds' vs us G Fv Z H l Q hf o hl rl ra k
  unfold fExtend at hf
  split at hf
  · rename_i ow es
    split at hf
    · rename_i hz
      cases hf
      rw [RdL] at ra
      obtain ⟨v, r, F1, F2, rfl, rfl, rv, ra⟩ := ra
      rw [RdL] at ra
      obtain ⟨rfl, rfl⟩ := ra
      obtain ⟨b, zs, G2, rfl, h1, h2⟩ := rv.lstP o.zh
      refine ⟨l, b, vs, zs, rfl, rfl, hl, h1, by rw [← rl.length, ← h2.length]; exact hz.1, ?_⟩
      have nd' := List.nodup_append.mp o.nd
      refine k (vs ++ zs) .non [] G hl ?_ ?_ (RdL.appG rl (h2.nof hz.2)) rd_non
      · exact (List.nodup_cons.mp nd'.2.1).2
      · intro a ha
        exact List.mem_append_right _ (by simpa using ha)
    · cases hf
  · cases hf
/-- xs.pop(), xs.pop(i) -/
def fPopAt : List D → List D → Option (D × List D)
  | ds, [.int i] => if -(2 ^ 63) ≤ i ∧ i < 2 ^ 63 then (match ixN ds.length i with
    | some k => (match ds[k]? with | some d => some (d, ds.eraseIdx k) | none => none)
    | none => none) else none
  | _, _ => none
theorem RdL.erase : ∀ {ds : List D} {vs : List V} {G : List Addr} {k : Nat} {d : D}, RdL C Z H ds vs G → ds[k]? = some d → ∃ v Fd G', vs[k]? = some v ∧ G.Perm (Fd ++ G') ∧ RdV C Z H d v Fd ∧ RdL C Z H (ds.eraseIdx k) (vs.eraseIdx k) G'
  | [], _, _, k, d, _, e => by simp at e
  | d0 :: ds, _, _, 0, d, h, e => by
    rw [RdL] at h
    obtain ⟨v, r, F1, F2, rfl, rfl, h3, h4⟩ := h
    cases e
    exact ⟨v, F1, F2, rfl, List.Perm.refl _, h3, h4⟩
  | d0 :: ds, _, _, k + 1, d, h, e => by
    rw [RdL] at h
    obtain ⟨v, r, F1, F2, rfl, rfl, h3, h4⟩ := h
    obtain ⟨v', Fd, G', g1, g2, g3, g4⟩ := RdL.erase h4 (show ds[k]? = some d from e)
    refine ⟨v', Fd, F1 ++ G', g1, ?_, g3, ?_⟩
    · refine (List.Perm.append_left F1 g2).trans ?_
      rw [← List.append_assoc, ← List.append_assoc]
      exact List.Perm.append_right G' List.perm_append_comm
    · rw [List.eraseIdx_cons_succ, List.eraseIdx_cons_succ, RdL]
      exact ⟨v, _, F1, G', rfl, rfl, h3, g4⟩
theorem m_popAt : FnM C rPopAt fPopAt := by
  intro ds as d ds' vs us G Fv Z H l Q hf o hl rl ra k
  unfold fPopAt at hf
  split at hf
  · rename_i i
    split at hf
    case isFalse => cases hf
    rename_i hb
    cases hk : ixN ds.length i with
    | none => simp only [hk] at hf; cases hf
    | some j =>
      simp only [hk] at hf
      cases hd : ds[j]? with
      | none => simp only [hd] at hf; cases hf
      | some x =>
        simp only [hd] at hf
        cases hf
        obtain ⟨v, Fd, G', g1, g2, g3, g4⟩ := RdL.erase rl hd
        rw [RdL] at ra
        obtain ⟨z, r, F1, F2, rfl, rfl, rz, ra⟩ := ra
        rw [RdL] at ra
        obtain ⟨rfl, rfl⟩ := ra
        obtain ⟨q1, q2, q3, q4⟩ := ixN_seq hk
        refine ⟨l, vs, i, j, v, rfl, by rw [rz.intI], hl, hb.1, hb.2, by rw [← rl.length]; exact q1, g1, ?_⟩
        · have nd' := List.nodup_append.mp o.nd
          have ndG := (List.nodup_cons.mp nd'.2.1).2
          exact k _ v Fd G' hl (g2.nodup_iff.mp ndG) (fun a ha => List.mem_append_right _ (g2.mem_iff.mpr ha)) g4 g3
  · cases hf
end
end Mi

set_option maxHeartbeats 4000000
namespace Mi
open PySem PySem.Spec PyProof.Rows L2 RZ Ov

section
variable {N : Cn} {C : Ct} {Z H Z' H' : Hp} {F F' G Fv : List Addr} {σ : L2.St}
/-! ### xs.pop() -/
def fPop : List D → List D → Option (D × List D)
  | ds, [] => match ds[ds.length - 1]? with | some d => some (d, ds.dropLast) | none => none
  | _, _ => none
theorem m_pop : FnM C rPop fPop := by
  intro ds as d ds' vs us G Fv Z H l Q hf o hl rl ra k
  unfold fPop at hf
  split at hf
  · cases hd : ds[ds.length - 1]? with
    | none => simp only [hd] at hf; cases hf
    | some x =>
      simp only [hd] at hf
      cases hf
      obtain ⟨v, Fd, G', g1, g2, g3, g4⟩ := RdL.erase rl hd
      rw [RdL] at ra
      obtain ⟨rfl, rfl⟩ := ra
      have ev : ∀ {α : Type} (l : List α), l.eraseIdx (l.length - 1) = l.dropLast := fun l => by
        cases l with
        | nil => rfl
        | cons y r => rw [List.eraseIdx_eq_dropLast]; simp
      rw [ev] at g4
      have e2 : vs.eraseIdx (ds.length - 1) = vs.dropLast := by rw [rl.length]; exact ev vs
      rw [e2] at g4
      refine ⟨l, vs, v, rfl, rfl, hl, by rw [← rl.length]; exact g1, ?_⟩
      have nd' := List.nodup_append.mp o.nd
      have ndG := (List.nodup_cons.mp nd'.2.1).2
      exact k _ v Fd G' hl (g2.nodup_iff.mp ndG) (fun a ha => List.mem_append_right _ (g2.mem_iff.mpr ha)) g4 g3
  · cases hf
/-! ### x[i] = e -/
def putKD (kvs : List (D × D)) (k d : D) : List (D × D) := if (lookD kvs k).isSome then kvs.map (fun p => if eqF p.1 k then (p.1, d) else p) else kvs ++ [(k, d)]
theorem RdK.mapv : ∀ {kvs : List (D × D)} {us : List (Key × V)} {F : List Addr} {k : Key} {d : D} {v : V}, RdV C Z H d v [] → RdK C Z H kvs us F →
    ∃ F', F'.Sublist F ∧ RdK C Z H (kvs.map fun p => if eqF p.1 (kD k) then (p.1, d) else p) (us.map fun kv => if kv.1 = k then (kv.1, v) else kv) F'
  | [], _, _, k, d, v, _, h => by rw [RdK] at h; rw [h.1]; exact ⟨[], List.nil_sublist _, by simp [RdK]⟩
  | (k0, d0) :: r, _, _, k, d, v, rv, h => by
    rw [RdK] at h
    obtain ⟨q, v0, s, F1, F2, rfl, rfl, rfl, r0, h⟩ := h
    obtain ⟨F3, s3, r3⟩ := RdK.mapv (k := k) rv h
    rw [List.map_cons, List.map_cons]
    by_cases e : q = k
    · subst e
      rw [if_pos rfl, if_pos (by rw [eqF_kD]; simp)]
      refine ⟨F3, s3.trans (List.sublist_append_right ..), ?_⟩
      rw [RdK]
      exact ⟨q, v, _, [], F3, rfl, rfl, rfl, rv, r3⟩
    · rw [if_neg e, if_neg (by rw [eqF_kD]; simp [e])]
      refine ⟨F1 ++ F3, List.Sublist.append_left s3 F1, ?_⟩
      rw [RdK]
      exact ⟨q, v0, _, F1, F3, rfl, rfl, rfl, r0, r3⟩
theorem RdK.snoc : ∀ {kvs : List (D × D)} {us : List (Key × V)} {F F2 : List Addr} {k : Key} {d : D} {v : V}, RdV C Z H d v F2 → RdK C Z H kvs us F → RdK C Z H (kvs ++ [(kD k, d)]) (us ++ [(k, v)]) (F ++ F2)
  | [], _, _, F2, k, d, v, rv, h => by
    rw [RdK] at h
    rw [h.1, h.2, List.nil_append, List.nil_append, List.nil_append, RdK]
    exact ⟨k, v, [], F2, [], rfl, by simp, rfl, rv, by simp [RdK]⟩
  | (k0, d0) :: r, _, _, F2, k, d, v, rv, h => by
    rw [RdK] at h
    obtain ⟨q, v0, s, F1, F3, rfl, rfl, rfl, r0, h⟩ := h
    rw [List.cons_append, List.cons_append, RdK]
    exact ⟨q, v0, s ++ [(k, v)], F1, F3 ++ F2, rfl, by simp, rfl, r0, RdK.snoc rv h⟩
theorem RdK.put0 {kvs : List (D × D)} {us : List (Key × V)} {k : Key} {d : D} {v : V} (rv : RdV C Z H d v []) (h : RdK C Z H kvs us F) :
    ∃ F', F'.Sublist F ∧ RdK C Z H (putKD kvs (kD k) d) (putK us k v) F' := by
  unfold putKD putK
  rw [valV_any]
  rcases h.val (k := k) with ⟨z1, z2⟩ | ⟨x, y, F1, z1, z2, _⟩
  · rw [z1, z2]
    simp only [Option.isSome_none, Bool.false_eq_true, if_false]
    exact ⟨F ++ [], by simp, RdK.snoc rv h⟩
  · rw [z1, z2]
    simp only [Option.isSome_some, if_true]
    exact RdK.mapv rv h
theorem RdK.mut {a : Addr} {o : HO} {d : List (D × D)} {v : List (Key × V)} (h : RdK C Z H d v F) (n : a ∉ F) : RdK C Z (upd H a o) d v F :=
  RdK.mono (Same.refl _) d v F (fun b hb => upd_ne fun z : b = a => n (by rw [← z]; exact hb)) h
theorem RdL.set : ∀ {ds : List D} {vs : List V} {G Fd : List Addr} {j : Nat} {d : D} {v : V}, RdL C Z H ds vs G → RdV C Z H d v Fd → (Fd ++ G).Nodup → ∃ G', G'.Nodup ∧ (∀ a ∈ G', a ∈ Fd ++ G) ∧ RdL C Z H (ds.set j d) (vs.set j v) G'
  | [], vs, G, Fd, j, d, v, h, rv, nd => by
    rw [RdL] at h
    rw [h.1, h.2]
    refine ⟨[], List.nodup_nil, ?_, RdL.nil0⟩
    intro a ha
    cases ha
  | d0 :: ds, _, _, Fd, 0, d, v, h, rv, nd => by
    rw [RdL] at h
    obtain ⟨v0, r, F1, F2, rfl, rfl, h3, h4⟩ := h
    refine ⟨Fd ++ F2, ?_, ?_, ?_⟩
    · refine List.nodup_append.mpr ⟨nodup_left nd, nodup_right (nodup_right nd), fun a ha b hb e => ?_⟩
      subst e
      exact (List.nodup_append.mp nd).2.2 a ha a (List.mem_append_right _ hb) rfl
    · intro a ha
      rcases List.mem_append.mp ha with z | z
      · exact List.mem_append_left _ z
      · exact List.mem_append_right _ (List.mem_append_right _ z)
    · rw [List.set_cons_zero, List.set_cons_zero, RdL]
      exact ⟨v, r, Fd, F2, rfl, rfl, rv, h4⟩
  | d0 :: ds, _, _, Fd, j + 1, d, v, h, rv, nd => by
    rw [RdL] at h
    obtain ⟨v0, r, F1, F2, rfl, rfl, h3, h4⟩ := h
    have nd2 : (Fd ++ F2).Nodup := List.nodup_append.mpr ⟨nodup_left nd, nodup_right (nodup_right nd), fun a ha b hb e => by
      subst e
      exact (List.nodup_append.mp nd).2.2 a ha a (List.mem_append_right _ hb) rfl⟩
    obtain ⟨G', g1, g2, g3⟩ := RdL.set (j := j) h4 rv nd2
    refine ⟨F1 ++ G', ?_, ?_, ?_⟩
    · refine List.nodup_append.mpr ⟨nodup_left (nodup_right nd), g1, fun a ha b hb e => ?_⟩
      subst e
      rcases List.mem_append.mp (g2 a hb) with z | z
      · exact (List.nodup_append.mp nd).2.2 a z a (List.mem_append_left _ ha) rfl
      · exact (List.nodup_append.mp (nodup_right nd)).2.2 a ha a z rfl
    · intro a ha
      rcases List.mem_append.mp ha with z | z
      · exact List.mem_append_right _ (List.mem_append_left _ z)
      · rcases List.mem_append.mp (g2 a z) with y | y
        · exact List.mem_append_left _ y
        · exact List.mem_append_right _ (List.mem_append_right _ y)
    · rw [List.set_cons_succ, List.set_cons_succ, RdL]
      exact ⟨v0, _, F1, G', rfl, rfl, h3, g3⟩
/-- what stands in the place behind x[i] = d -/
def fSet : D → D → D → Option D
  | .lst true ds, .int k, d => match ixN ds.length k with | some j => some (.lst true (ds.set j d)) | none => none
  | .dct true kvs, k, d => match keyD k with | some _ => if kvs.length < sizeLine && fzn d then some (.dct true (putKD kvs k d)) else none | none => none
  | _, _, _ => none
def rDPutU : TSet := fun o i v H Q => ∃ a H4, o = .ref a ∧ DPut H a i v H4 ∧ Q H4
theorem set_dictU {X : Cx} (hu : X.A.units + 64 < cLine) : PSet X rDPutU := by
  intro pins s σ H o i v ov iv u Q I ro ri rv h
  obtain ⟨a, H4, rfl, g, q⟩ := h
  cases ro
  exact d_setItem (by omega) I g ri rv fun s4 I4 => ⟨H4, I4, q⟩
def rSetU : TSet := fun o i v H Q => rSetL o i v H Q ∨ rDPutU o i v H Q
theorem o_set {X : Cx} (hu : X.A.units + 64 < cLine) : PSet X rSetU := by
  intro pins s σ H o i v ov iv u Q I ro ri rv h
  rcases h with h | h
  · exact set_list pins s σ H o i v ov iv u Q I ro ri rv h
  · exact set_dictU hu pins s σ H o i v ov iv u Q I ro ri rv h
def sPut (p : Plc) (m n : ME) : MS := fun env => (m env).bind fun d e => match getP e p with
  | some _ => (n e).bind fun i e => match getP e p with
    | some c => (match fSet c i d with | some c' => .ok .nx (setP e p c') | none => .no)
    | none => .no
  | none => .no
theorem rs_put {s1 s2 : Bool} {p : Plc} {t u : TE} {m n : ME} (hp : PlcOk N.C p) (h : RefE N s1 t m) (hn : RefT N s2 u n) (hs : plcSt p s2 = true) : RefS N (tAsg t (gSub (tPlc N.C.K p) u rSetU)) (sPut p m n) := fun env σ Z H F D0 o r w => by
  refine h env σ Z H F _ o r (w.bind.mono (Pin.refl _ _) (Ext.refl o) ?_)
  intro d env1 k v Z1 H1 Fv F1 x1 rv r1 sm1
  split at k
  · rename_i c0 q0
    obtain ⟨a, Fe, Fr, g1, g2, g3, g4⟩ := focus hp r1 q0
    refine readP g1 ?_
    have o1 := x1.ok.split
    refine hn env1 σ Z1 H1 F1 _ o1 r1 ((Wp.bind k).mono (Pin.refl _ _) x1.right ?_)
    intro i env2 k2 iv Z2 H2 Fi F2 x2 ri r2 sm2
    have y2 := x2.hold x1.ok
    split at k2
    · rename_i c q1
      have hu := place_same hp hs g1 r2 q1 sm2
      cases hfd : fSet c i d with
      | none => simp only [hfd] at k2; exact k2.elim
      | some c' =>
      simp only [hfd] at k2
      have rv2 : RdV N.C Z2 H2 d v Fv := x2.held x1.ok.disj rv
      obtain ⟨u', Fe1, Fr1, j1, j2, j3, j4⟩ := focus hp r2 q1
      have eu := ReadP.uniq (Same.refl _) hu j1
      subst eu
      have pm : (Fv ++ F2).Perm (Fv ++ (Fe1 ++ Fr1)) := List.Perm.append_left Fv j3
      have nd2 := pm.nodup_iff.mp y2.ok.nd
      unfold fSet at hfd
      split at hfd
      · rename_i ds z
        cases hj : ixN ds.length z with
        | none => simp only [hj] at hfd; cases hfd
        | some j =>
        simp only [hj] at hfd
        cases hfd
        rw [RdV] at j2
        obtain ⟨l, vs, G, rfl, e1, rfl, e3⟩ := j2
        have ndFG : (Fv ++ G).Nodup := List.nodup_append.mpr ⟨nodup_left nd2, (List.nodup_cons.mp (nodup_left (nodup_right nd2))).2, fun a ha b hb e => by
          subst e
          exact (List.nodup_append.mp nd2).2.2 a ha a (List.mem_append_left _ (List.mem_cons_of_mem _ hb)) rfl⟩
        obtain ⟨G', n1, n2, n3⟩ := RdL.set (j := j) e3 rv2 ndFG
        have nl : l ∉ Fv ++ G := fun z => by
          rcases List.mem_append.mp z with z | z
          · exact (List.nodup_append.mp nd2).2.2 l z l (by simp) rfl
          · exact (List.nodup_cons.mp (nodup_left (nodup_right nd2))).1 z
        have nr : l ∉ Fr1 := fun z => (List.nodup_append.mp (nodup_right nd2)).2.2 l (List.mem_cons_self ..) l z rfl
        refine .inl ⟨l, vs, z, j, rfl, ri.intI, e1, by rw [← e3.length]; exact hj, ?_⟩
        obtain ⟨F3, k3, k4⟩ := j4 (upd H2 l (.lst (vs.set j v))) (.lst true (ds.set j d)) (l :: G') (fun b hb => upd_ne fun z : b = l => nr (by rw [← z]; exact hb)) (by
          rw [RdV]
          exact ⟨l, _, G', rfl, upd_same, rfl, n3.mut fun z => nl (n2 l z)⟩)
        have hmem : l ∈ Fv ++ F2 := pm.mem_iff.mpr (by simp)
        have x3 := Ext.mut (o := .lst (vs.set j v)) y2.ok hmem
        refine k2 σ Z2 _ F3 (Pin.refl _ _) ((x1.trans y2).trans (x3.sub ?_ fun a ha => ?_)) k4
        · refine k3.nodup_iff.mpr ?_
          rw [List.cons_append]
          refine List.nodup_cons.mpr ⟨fun z => ?_, List.nodup_append.mpr ⟨n1, nodup_right (nodup_right nd2), fun a ha b hb e => ?_⟩⟩
          · rcases List.mem_append.mp z with z | z
            · exact nl (n2 l z)
            · exact nr z
          · subst e
            rcases List.mem_append.mp (n2 a ha) with z | z
            · exact (List.nodup_append.mp nd2).2.2 a z a (List.mem_append_right _ hb) rfl
            · exact (List.nodup_append.mp (nodup_right nd2)).2.2 a (List.mem_cons_of_mem _ z) a hb rfl
        · refine pm.mem_iff.mpr ?_
          rcases List.mem_append.mp (k3.mem_iff.mp ha) with y | y
          · rcases List.mem_cons.mp y with y | y
            · subst y; simp
            · rcases List.mem_append.mp (n2 a y) with y | y
              · exact List.mem_append_left _ y
              · exact List.mem_append_right _ (List.mem_append_left _ (List.mem_cons_of_mem _ y))
          · exact List.mem_append_right _ (List.mem_append_right _ y)
      · rename_i kvs
        cases hk : keyD i with
        | none => simp only [hk] at hfd; cases hfd
        | some q =>
        simp only [hk] at hfd
        split at hfd
        case isFalse => cases hfd
        rename_i hz
        cases hfd
        rw [Bool.and_eq_true, decide_eq_true_eq] at hz
        have := RdV.fzn d v Fv hz.2 rv2
        subst this
        obtain rfl := kD_key hk
        have ei := ri.key hk
        subst ei
        rw [RdV] at j2
        obtain ⟨l, us, G, rfl, e1, rfl, e3⟩ := j2
        obtain ⟨G', n1, n2⟩ := RdK.put0 (k := q) rv2 e3
        simp only [List.nil_append] at pm nd2
        have nl : l ∉ G := (List.nodup_cons.mp (nodup_left nd2)).1
        have nr : l ∉ Fr1 := fun z => (List.nodup_append.mp nd2).2.2 l (List.mem_cons_self ..) l z rfl
        refine .inr ⟨l, _, rfl, DPut.k e1 (by rw [← e3.length]; exact hz.1), ?_⟩
        obtain ⟨F3, k3, k4⟩ := j4 (upd H2 l (.dK (putK us q v))) (.dct true (putKD kvs (kD q) d)) (l :: G') (fun b hb => upd_ne fun z : b = l => nr (by rw [← z]; exact hb)) (by
          rw [RdV]
          exact ⟨l, _, G', rfl, upd_same, rfl, n2.mut fun z => nl (n1.mem z)⟩)
        have hmem : l ∈ [] ++ F2 := pm.mem_iff.mpr (by simp)
        have x3 := Ext.mut (o := .dK (putK us q v)) y2.ok hmem
        refine k2 σ Z2 _ F3 (Pin.refl _ _) ((x1.trans y2).trans (x3.sub ?_ fun a ha => ?_)) k4
        · refine k3.nodup_iff.mpr ?_
          rw [List.cons_append]
          refine List.nodup_cons.mpr ⟨fun z => ?_, List.nodup_append.mpr ⟨n1.nodup (List.nodup_cons.mp (nodup_left nd2)).2, nodup_right nd2, fun a ha b hb e => ?_⟩⟩
          · rcases List.mem_append.mp z with z | z
            · exact nl (n1.mem z)
            · exact nr z
          · subst e
            exact (List.nodup_append.mp nd2).2.2 a (List.mem_cons_of_mem _ (n1.mem ha)) a hb rfl
        · refine pm.mem_iff.mpr ?_
          rcases List.mem_append.mp (k3.mem_iff.mp ha) with y | y
          · rcases List.mem_cons.mp y with y | y
            · subst y; simp
            · exact List.mem_append_left _ (List.mem_cons_of_mem _ (n1.mem y))
          · exact List.mem_append_right _ y
      · cases hfd
    · exact k2.elim
  · exact k.elim
/-! ### self.f = e -/
def sFldD (i : Nat) (cs : List String) (f : String) (m : ME) : MS := fun env => (m env).bind fun d e => match e[i]? with
  | some (some (.ins true c fs)) => if cs.contains c && decide (fs.length < 1000) then .ok .nx (e.set i (some (.ins true c (putD f d fs)))) else .no
  | _ => .no
theorem RdF.length : ∀ {fs : List (String × D)} {us : List (Str × V)} {F : List Addr}, RdF C Z H fs us F → fs.length = us.length
  | [], _, _, h => by rw [RdF] at h; rw [h.1]; rfl
  | (k, d) :: r, _, _, h => by
    rw [RdF] at h
    obtain ⟨v, s, F1, F2, rfl, _, _, h⟩ := h
    simp [RdF.length h]
theorem RdF.store : ∀ {fs : List (String × D)} {us : List (Str × V)} {F : List Addr} {f : String} {d : D} {v : V} {Fd : List Addr}, RdF C Z H fs us F → RdV C Z H d v Fd →
    ∃ Fr, Fr.Sublist F ∧ ∃ F', F'.Perm (Fd ++ Fr) ∧ RdF C Z H (putD f d fs) (putF (PySem.Str.ofString f) v us) F'
  | [], us, F, f, d, v, Fd, h, rv => by
    rw [RdF] at h
    rw [h.1, h.2]
    refine ⟨[], List.Sublist.refl _, Fd ++ [], List.Perm.refl _, ?_⟩
    rw [putD, putF, RdF]
    exact ⟨v, [], Fd, [], rfl, rfl, rv, by simp [RdF]⟩
  | (k, d0) :: fs, us, F, f, d, v, Fd, h, rv => by
    rw [RdF] at h
    obtain ⟨v0, s, F1, F2, rfl, rfl, r0, h⟩ := h
    rw [putD, putF]
    by_cases e : k = f
    · subst e
      rw [if_pos rfl, if_pos rfl]
      refine ⟨F2, List.sublist_append_right .., Fd ++ F2, List.Perm.refl _, ?_⟩
      rw [RdF]
      exact ⟨v, s, Fd, F2, rfl, rfl, rv, h⟩
    · rw [if_neg e, if_neg fun z => e (ofString_inj z)]
      obtain ⟨Fr, s1, F', p1, r1⟩ := RdF.store (f := f) h rv
      refine ⟨F1 ++ Fr, List.Sublist.append_left s1 F1, F1 ++ F', ?_, ?_⟩
      · refine (List.Perm.append_left F1 p1).trans ?_
        rw [← List.append_assoc, ← List.append_assoc]
        exact List.Perm.append_right Fr List.perm_append_comm
      · rw [RdF]
        exact ⟨v0, _, F1, F', rfl, rfl, r0, r1⟩
theorem RdF.mut {a : Addr} {o : HO} {d : List (String × D)} {v : List (Str × V)} (h : RdF C Z H d v F) (n : a ∉ F) : RdF C Z (upd H a o) d v F :=
  RdF.mono (Same.refl _) d v F (fun b hb => upd_ne fun z : b = a => n (by rw [← z]; exact hb)) h
theorem rs_fld {s1 : Bool} {i : Nat} {cs : List String} {f : String} {t : TE} {m : ME} (hc : ∀ c ∈ cs, FldOk N.C c f) (h : RefE N s1 t m) : RefS N (sFld N.C.K (tVar i) t (PySem.Str.ofString f)) (sFldD i cs f m) := fun env σ Z H F D0 o r w => by
  refine h env σ Z H F _ o r (w.bind.mono (Pin.refl _ _) (Ext.refl o) ?_)
  intro d env1 k v Z1 H1 Fv F1 x1 rv r1 sm1
  split at k
  · rename_i c fs q
    split at k
    case isFalse => exact k.elim
    rename_i hz
    rw [Bool.and_eq_true, decide_eq_true_eq] at hz
    obtain ⟨u, G1, G2, h1, h2, h3, h4⟩ := r1.take q
    rw [RdV] at h2
    obtain ⟨a, Ca, dx, us, G, rfl, h5, h6, rfl, h7⟩ := h2
    obtain ⟨Cb, q1, q2, q3⟩ := hc c (by simpa using hz.1)
    rw [h5] at q1
    cases q1
    refine ⟨.ref a, h1, a, Ca, dx, us, rfl, h6, q2, q3, by rw [← h7.length]; exact hz.2, ?_⟩
    have pm : (Fv ++ F1).Perm (Fv ++ ((a :: G) ++ G2)) := List.Perm.append_left Fv h3
    have nd2 := pm.nodup_iff.mp x1.ok.nd
    obtain ⟨Fr, s1, G', p1, r2⟩ := RdF.store (f := f) h7 rv
    have na : a ∉ Fv := fun z => (List.nodup_append.mp nd2).2.2 a z a (by simp) rfl
    have nG : a ∉ G := (List.nodup_cons.mp (nodup_left (nodup_right nd2))).1
    have n2 : a ∉ G2 := fun z => (List.nodup_append.mp (nodup_right nd2)).2.2 a (List.mem_cons_self ..) a z rfl
    have nG' : a ∉ G' := fun z => by
      rcases List.mem_append.mp (p1.mem_iff.mp z) with z | z
      · exact na z
      · exact nG (s1.mem z)
    have h4' : RdE N.C Z1 (upd H1 a (.ins Ca dx (putF (PySem.Str.ofString f) v us))) (env1.set i none) σ G2 := h4.mut n2
    have hv : RdV N.C Z1 (upd H1 a (.ins Ca dx (putF (PySem.Str.ofString f) v us))) (.ins true c (putD f d fs)) (.ref a) (a :: G') := by
      rw [RdV]
      exact ⟨a, Ca, dx, _, G', rfl, h5, upd_same, rfl, r2.mut nG'⟩
    obtain ⟨F4, j1, j2⟩ := RdE.put (i := i) h4' (lt_of_get q) hv
    rw [set_same (env := env1) h1] at j2
    have hmem : a ∈ Fv ++ F1 := pm.mem_iff.mpr (by simp)
    have x3 := Ext.mut (o := .ins Ca dx (putF (PySem.Str.ofString f) v us)) x1.ok hmem
    refine k σ Z1 _ F4 (Pin.refl _ _) (x1.trans (x3.sub ?_ fun b hb => ?_)) j2
    · refine j1.nodup_iff.mpr ?_
      rw [List.cons_append]
      have ndG' : G'.Nodup := p1.nodup_iff.mpr (List.nodup_append.mpr ⟨nodup_left nd2, s1.nodup (List.nodup_cons.mp (nodup_left (nodup_right nd2))).2, fun x hx y hy e => by
        subst e
        exact (List.nodup_append.mp nd2).2.2 x hx x (List.mem_append_left _ (List.mem_cons_of_mem _ (s1.mem hy))) rfl⟩)
      refine List.nodup_cons.mpr ⟨fun z => ?_, List.nodup_append.mpr ⟨ndG', nodup_right (nodup_right nd2), fun x hx y hy e => ?_⟩⟩
      · rcases List.mem_append.mp z with z | z
        · exact nG' z
        · exact n2 z
      · subst e
        rcases List.mem_append.mp (p1.mem_iff.mp hx) with z | z
        · exact (List.nodup_append.mp nd2).2.2 x z x (List.mem_append_right _ hy) rfl
        · exact (List.nodup_append.mp (nodup_right nd2)).2.2 x (List.mem_cons_of_mem _ (s1.mem z)) x hy rfl
    · refine pm.mem_iff.mpr ?_
      rcases List.mem_append.mp (j1.mem_iff.mp hb) with y | y
      · rcases List.mem_cons.mp y with y | y
        · subst y; simp
        · rcases List.mem_append.mp (p1.mem_iff.mp y) with y | y
          · exact List.mem_append_left _ y
          · exact List.mem_append_right _ (List.mem_append_left _ (List.mem_cons_of_mem _ (s1.mem y)))
      · exact List.mem_append_right _ (List.mem_append_right _ y)
  · exact k.elim
end
end Mi

set_option maxHeartbeats 4000000
namespace Mi
open PySem PySem.Spec PyProof.Rows L2 RZ Ov PpSet

/-! ### set comprehensions, whatever the members are: the new set at D is O0 D, a member is taken in by Ad -/
def tScG (O0 : Addr → HO) (Ad : Addr → V → HO → HO → Prop) (wi : TI) (g : TG) (tt : TT) (te : TE) (vs : List Nat) : TE := fun σ H Q => wi σ H fun J H1 => ∀ D, H1 D = none →
  ∃ W : Nat → Nat → Hp → Prop, (∃ m, W 0 m (upd H1 D (O0 D))) ∧ ∀ i m H, W i m H →
    (J.stop i H ∧ Q (.ref D) H) ∨ (J.go i H ∧ ∃ Nx : Hp → Prop, (∀ H', Nx H' → ∃ m', m' < m ∧ W (i + 1) m' H') ∧ ∀ x H', J.yld i H x H' →
      g x (wipe σ vs) H' fun σ2 H2 => wipe σ2 vs = wipe σ vs ∧ tt σ2 H2 fun b H3 => if b = true then te σ2 H3 fun y H4 => ∃ o o', H4 D = some o ∧ Ad D y o o' ∧ Nx (upd H4 D o') else Nx H3)
abbrev emptySet (w : World) : Obj := { cls := .type "set", dict := none, data := .set #[] 0 (.fresh 0 0 (!w.params.followText "set-order")) }
structure SetG (P : Program) (w : World) (O0 : Addr → HO) (Ad : Addr → V → HO → HO → Prop) : Prop where
  new : ∀ (H : Hp) (h : Heap), ObjOk P w H (h.push (emptySet w)) h.objs.size (O0 h.objs.size)
  add : ∀ (X : Cx) (pins : List (Addr × Obj)) (σ : L2.St) (H : Hp) (s : Shared) (E : Value → Shared → Prop) (D : Addr) (y : V) (u : Value) (o o' : HO) (Q : Value → Shared → Prop), X.prog = P → X.w = w →
    Inv X pins σ H s → H D = some o → Ad D y o o' → RelV y u → (∀ s', Inv X pins σ (upd H D o') s' → Q .none s') → wpAny (model P w) X.A (call (.builtin "set.add") [.ref D, u]) Q E s
section
variable {X : Cx} {O0 : Addr → HO} {Ad : Addr → V → HO → HO → Prop}
theorem scG_core {pins : List (Addr × Obj)} {s : Shared} {σ : L2.St} {H : Hp} {Q : VK} {elt tg iter : Expr} {ifs : List Expr} {scope : Scope} {own : List (PySem.Str × Nat)} {pos pos' : Pos} {wi : TI} {g : TG} {tt : TT} {te : TE} {us : Option (Value → Sem Unit)} {Qf : Value → Shared → Prop}
    (SG : SetG X.prog X.w O0 Ad) (hc : X.calm = true) (hN : X.N.Nodup) (hi : PI X tg iter wi)
    (ok : BlkOk X.N X.env.scope scope own) (hg : ∀ (sh : Shared) (Hh : Hp) (A0 : Addr) (cl : List (PySem.Str × Addr)) (fp : List Addr), PG (X.blk sh Hh scope (compEnvC scope cl A0 X.env) fp) tg g)
    (ht : ∀ (sh : Shared) (Hh : Hp) (A0 : Addr) (cl : List (PySem.Str × Addr)) (fp : List Addr), PTs (X.blk sh Hh scope (compEnvC scope cl A0 X.env) fp) ifs tt)
    (he : ∀ (sh : Shared) (Hh : Hp) (A0 : Addr) (cl : List (PySem.Str × Addr)) (fp : List Addr), PE (X.blk sh Hh scope (compEnvC scope cl A0 X.env) fp) elt te)
    (hs : ∀ x, foldedSetIterable iter X.env x = pure x) (I : Inv X pins σ H s) (h : tScG O0 Ad wi g tt te (own.map (·.2)) σ H Q)
    (ends : ∀ D A0 sq mm Hq, Inv X pins σ Hq sq → Q (.ref D) Hq → sq.heap.Ns A0 mm → FpOk X pins Hq A0 → compPost (model X.prog X.w) X.A X.xe us Qf (.ref D) A0 (.ok .next) sq) :
    wpAny (model X.prog X.w) X.A (comprehension (.SetComp elt [⟨tg, iter, ifs, 0⟩] scope pos) scope X.env pos' (newSet (.type "set")) false (eval iter X.env) us) Qf X.xe s := by
  have frees : ∀ nk ∈ scope.names, nk.2 = .free → ∃ cell, X.env.cells.lookup nk.1 = some cell := fun nk hnk e =>
    (ok.free nk hnk e).elim (fun z => I.ok.has _ (.inl z)) fun z => I.ok.has _ (.inr z)
  refine wpAny_comprehension_free (use := us) rfl hs (closure_ok frees) ok.kind (fun nk hnk e => by rw [ok.uniq nk hnk, e])
    (thn (hi.run pins s σ H _ I h) fun itv0 sA hA => thn hA fun itv sB hB => ?_)
  obtain ⟨it, fp, tn, J, HB, e, IB, T, stB, fB, q⟩ := hB
  subst e
  refine newSet_ok (newEnv_comp ?_)
  obtain ⟨W, ⟨m0, w0⟩, turn⟩ := q sB.heap.objs.size (IB.hok.fresh (Nat.le_refl _))
  generalize hsC : ({ sB with heap := sB.heap.push (emptySet X.w) } : Shared) = sC
  have hhC : sC.heap = sB.heap.push (emptySet X.w) := by rw [← hsC]
  generalize hDD : sB.heap.objs.size = D at w0 turn
  have IC : Inv X pins σ (upd HB D (O0 D)) sC := by
    rw [← hsC, ← hDD]
    exact IB.laid (t' := sB.toks) (fun b o e => Heap.get?_push_of_some _ e) (Nat.le_refl _) (SG.new _ sB.heap)
  have below : ∀ b ∈ fp, b < D := fun b hb => by
    obtain ⟨o, e, _⟩ := T.obj _ _ stB b hb
    rw [← hDD]
    exact Heap.lt_size e
  have fC : ∀ b ∈ fp, FpOk X pins (upd HB D (O0 D)) b ∧ b < sC.heap.objs.size := fun b hb => by
    have lt := below b hb
    refine ⟨⟨by rw [upd_ne (Nat.ne_of_lt lt)]; exact (fB b hb).1, (fB b hb).2⟩, ?_⟩
    rw [hhC, Heap.size_push, hDD]
    exact Nat.lt_succ_of_lt lt
  have stC : tn 0 sC.heap := T.keep _ _ _ stB fun b _ o e => by rw [hhC]; exact Heap.get?_push_of_some _ e
  have ID := block_start IC ok hN fC
  generalize hHC : upd HB D (O0 D) = HC at IC ID w0 fC
  have gG := hg sC HC sC.heap.objs.size (cellsFrom (sC.heap.objs.size + 1) scope.names (cloFrom X.env.cells scope.names [])) fp
  have gT := ht sC HC sC.heap.objs.size (cellsFrom (sC.heap.objs.size + 1) scope.names (cloFrom X.env.cells scope.names [])) fp
  have gE := he sC HC sC.heap.objs.size (cellsFrom (sC.heap.objs.size + 1) scope.names (cloFrom X.env.cells scope.names [])) fp
  show codeAny _ _ (.compStart (.SetComp elt [⟨tg, iter, ifs, 0⟩] scope pos) 0 (.ref it) (.ref D) (compEnvC scope (cellsFrom (sC.heap.objs.size + 1) scope.names (cloFrom X.env.cells scope.names [])) sC.heap.objs.size X.env))
    (compPost (model X.prog X.w) X.A X.xe us Qf (.ref D) sC.heap.objs.size) { sC with heap := pushCells (sC.heap.push { cls := .type "dict", data := .dict #[] }) scope.names }
  generalize hcv : compEnvC scope (cellsFrom (sC.heap.objs.size + 1) scope.names (cloFrom X.env.cells scope.names [])) sC.heap.objs.size X.env = cv at ID gG gT gE ⊢
  have locs : cv.locals = sC.heap.objs.size := by subst hcv; rfl
  generalize hsD : ({ sC with heap := pushCells (sC.heap.push { cls := .type "dict", data := .dict #[] }) scope.names } : Shared) = sD at ID ⊢
  have stD : tn 0 sD.heap := T.keep _ _ _ stC fun b _ o e => by rw [← hsD]; exact pushCells_keeps _ _ _ _ (Heap.get?_push_of_some _ e)
  have foot : ∀ {τ : L2.St} {Hq : Hp} {sq : Shared}, Inv (X.blk sC HC scope cv fp) [] τ Hq sq → (∀ b ∈ fp, Hq b = none) → ∀ b ∈ fp, FpOk (X.blk sC HC scope cv fp) [] Hq b := fun {τ Hq sq} Iq hn b hb =>
    ⟨hn b hb, (Iq.ok.exf b hb).1, Iq.ok.exfs b hb, .inl hb, fun x c e => (Iq.ok.exf b hb).2 x c e, fun p hp => by simp at hp⟩
  have body : codeAny (model X.prog X.w) X.A (.compLoop (.SetComp elt [⟨tg, iter, ifs, 0⟩] scope pos) 0 (.ref it) (.ref D) cv)
      (compPost (model X.prog X.w) X.A X.xe us Qf (.ref D) sC.heap.objs.size) sD := by
    refine compLoopS_any (fun n sq => ∃ i Hq, Inv (X.blk sC HC scope cv fp) [] (wipe σ (own.map (·.2))) Hq sq ∧ tn i sq.heap ∧ (∀ b ∈ fp, Hq b = none) ∧ W i n Hq) ?_ m0
      ⟨0, HC, ID, stD, fun b hb => (fC b hb).1.1, w0⟩
    rintro n s5 ⟨i, H5, I5, st5, n5, w5⟩
    rcases turn i n H5 w5 with ⟨stop, fin0⟩ | ⟨go, Nx, hNx, step⟩
    · refine thnF (T.done (X.blk sC HC scope cv fp) rfl rfl rfl hc i [] s5 _ H5 (fun _ _ => False) I5 (foot I5 n5) st5 stop) fun rr s6 ⟨hr, I6⟩ => ?_
      subst hr
      have back : Inv X pins σ H5 s6 := IC.call' (ch := fp) I6.os I6.base I6.hok I6.bare fun b hb => ⟨(fC b hb).1.2.2.2.1, (fC b hb).1.2.1, (fC b hb).1.2.2.2.2.1, (fC b hb).1.2.2.2.2.2⟩
      have free : H5 sC.heap.objs.size = none := by
        have z : H5 cv.locals = none := I6.free
        rwa [locs] at z
      obtain ⟨mm, hns, _⟩ := I6.loc
      have hns : s6.heap.Ns cv.locals mm := hns
      rw [locs] at hns
      exact ends D sC.heap.objs.size s6 mm H5 back fin0 hns (IC.fpOk (Nat.le_refl _) free)
    · refine thnF (T.item (X.blk sC HC scope cv fp) rfl rfl rfl hc i [] s5 _ H5 (fun _ _ => False) I5 (foot I5 n5) st5 go) fun rr s6 ⟨u, hr, h6⟩ => ?_
      subst hr
      refine thnF h6 fun _ s7 ⟨x, H7, I7, r7, y7, st7, n7⟩ => ?_
      refine thnF (gG.run _ s7 _ H7 x u _ (I7.pinned (foot I7 n7) (T.obj _ _ st7)) r7 (step x H7 y7)) fun _ s8 ⟨σ8, H8, I8, hw8, q8⟩ => ?_
      refine thnF (gT.run _ s8 σ8 H8 _ I8 q8) fun b s9 ⟨H9, I9, q9⟩ => ?_
      have again : ∀ {sq : Shared} {Hq : Hp}, Inv (X.blk sC HC scope cv fp) ([] ++ pinsAt fp s7.heap) σ8 Hq sq → Nx Hq →
          ∃ m, m < n ∧ ∃ i Hq, Inv (X.blk sC HC scope cv fp) [] (wipe σ (own.map (·.2))) Hq sq ∧ tn i sq.heap ∧ (∀ b ∈ fp, Hq b = none) ∧ W i m Hq := fun {sq Hq} Iq nx => by
        obtain ⟨m', hm, w'⟩ := hNx Hq nx
        have held : ∀ b ∈ fp, ∀ o, s7.heap.get? b = some o → sq.heap.get? b = some o ∧ Hq b = none := fun b hb o e =>
          have z := Iq.pin (b, o) (List.mem_append_right _ (List.mem_append_right _ (mem_pinsAt hb e)))
          ⟨z.1, z.2.1⟩
        refine ⟨m', hm, i + 1, Hq, (Iq.unpinned (pins := [])).weak (by rw [← hw8, wipe_length]) (fun j v e => by rw [← hw8] at e; exact (wipe_some e).1),
          T.keep _ _ _ st7 fun b hb o e => (held b hb o e).1, fun b hb => ?_, w'⟩
        obtain ⟨o, e, _⟩ := T.obj _ _ st7 b hb
        exact (held b hb o e).2
      cases b with
      | false =>
        simp only [Bool.false_eq_true, if_false] at q9 ⊢
        exact again I9 q9
      | true =>
        simp only [if_true] at q9 ⊢
        refine thnF (gE.run _ s9 σ8 H9 _ I9 q9) fun z s10 ⟨yv, H10, I10, r10, o1, o2, hD10, ad, nx⟩ => ?_
        exact SG.add (X.blk sC HC scope cv fp) _ _ _ _ _ D yv z o1 o2 _ rfl rfl I10 hD10 ad r10 fun s11 I11 => again I11 nx
  exact codeAny_compStart_set body (T.self X.A 0 _ _ _ stD body)
section
variable {elt tg iter : Expr} {ifs : List Expr} {scope : Scope} {own : List (PySem.Str × Nat)} {pos : Pos} {wi : TI} {g : TG} {tt : TT} {te : TE}
theorem pe_scG (SG : SetG X.prog X.w O0 Ad) (hc : X.calm = true) (hN : X.N.Nodup) (hi : PI X tg iter wi)
    (ok : BlkOk X.N X.env.scope scope own) (hg : ∀ (sh : Shared) (Hh : Hp) (A0 : Addr) (cl : List (PySem.Str × Addr)) (fp : List Addr), PG (X.blk sh Hh scope (compEnvC scope cl A0 X.env) fp) tg g)
    (ht : ∀ (sh : Shared) (Hh : Hp) (A0 : Addr) (cl : List (PySem.Str × Addr)) (fp : List Addr), PTs (X.blk sh Hh scope (compEnvC scope cl A0 X.env) fp) ifs tt)
    (he : ∀ (sh : Shared) (Hh : Hp) (A0 : Addr) (cl : List (PySem.Str × Addr)) (fp : List Addr), PE (X.blk sh Hh scope (compEnvC scope cl A0 X.env) fp) elt te)
    (hs : ∀ x, foldedSetIterable iter X.env x = pure x := by intro _; rfl) :
    PE X (.SetComp elt [⟨tg, iter, ifs, 0⟩] scope pos) (tScG O0 Ad wi g tt te (own.map (·.2))) := by
  refine ⟨fun pins s σ H Q I h => ?_⟩
  rw [eval_SetComp]
  refine scG_core SG hc hN hi ok hg ht he hs I h fun D A0 sq mm Hq Iq q hns f => ⟨mm, hns, fun hx sb => ?_⟩
  obtain ⟨f0, f1, f2, f3, f4, f5⟩ := f
  exact ⟨.ref D, Hq, Iq.turned (t' := sq.toks) (fun b o hb e => (sb.2 b hb).trans e) f0 f1 f3 f4 f5, rfl, q⟩
/-- a local name is given a comprehension's object -/
theorem named {pins : List (Addr × Obj)} {σ : L2.St} {i : Nat} {y : PySem.Str} {py : Pos} {D0 : Ends} {Lo : Addr} (hN : X.N.Nodup) (hy : X.N[i]? = some y) (hyl : X.env.scope.names.lookup y = some .local) {A0 : Addr} {sq : Shared} {mm : PySem.Str → Option Value} {Hq : Hp}
    (Iq : Inv X pins σ Hq sq) (q : gName i (.ref Lo) σ Hq D0.nx) (hns : sq.heap.Ns A0 mm) (f : FpOk X pins Hq A0) :
    compPost (model X.prog X.w) X.A X.xe (some (assign (.Name y py) X.env)) (fun _ s' => SP X pins D0 .next s') (.ref Lo) A0 (.ok .next) sq := by
  show wpAny _ _ (assign (.Name y py) X.env (.ref Lo)) _ _ _
  refine wpAny_assign_Name (store_ok2 (v := V.ref Lo) Iq hN hy (.inl hyl) rfl (fun s2 I2 ⟨a, sb, ha⟩ => ?_) (.inr hyl))
  obtain ⟨f0, f1, f2, f3, f4, f5⟩ := f
  have apart : A0 ≠ a := ha.elim (fun z => by rw [z]; exact f1) fun z e => f4 y a z e.symm
  exact ⟨mm, hns.sameBut sb apart, fun h3 sb3 => ⟨_, Hq, I2.turned (t' := s2.toks) (fun b o hb e => (sb3.2 b hb).trans e) f0 f1 f3 f4 f5, q⟩⟩
theorem ps_setScG {i : Nat} {y : PySem.Str} {py spos : Pos} (SG : SetG X.prog X.w O0 Ad) (hc : X.calm = true) (hN : X.N.Nodup) (hy : X.N[i]? = some y) (hyl : X.env.scope.names.lookup y = some .local)
    (hsw : swapsWith (.SetComp elt [⟨tg, iter, ifs, 0⟩] scope pos) (some (.Name y py)) spos.line X.env = pure true) (hi : PI X tg iter wi)
    (ok : BlkOk X.N X.env.scope scope own) (hg : ∀ (sh : Shared) (Hh : Hp) (A0 : Addr) (cl : List (PySem.Str × Addr)) (fp : List Addr), PG (X.blk sh Hh scope (compEnvC scope cl A0 X.env) fp) tg g)
    (ht : ∀ (sh : Shared) (Hh : Hp) (A0 : Addr) (cl : List (PySem.Str × Addr)) (fp : List Addr), PTs (X.blk sh Hh scope (compEnvC scope cl A0 X.env) fp) ifs tt)
    (he : ∀ (sh : Shared) (Hh : Hp) (A0 : Addr) (cl : List (PySem.Str × Addr)) (fp : List Addr), PE (X.blk sh Hh scope (compEnvC scope cl A0 X.env) fp) elt te)
    (hs : ∀ x, foldedSetIterable iter X.env x = pure x := by intro _; rfl) :
    PS X (.Assign [.Name y py] (.SetComp elt [⟨tg, iter, ifs, 0⟩] scope pos) spos) (tAsg (tScG O0 Ad wi g tt te (own.map (·.2))) (gName i)) := by
  refine ⟨fun pins s σ H D0 I h => ?_⟩
  rw [exec_Assign_Name_used _ _ _ _ hsw]
  refine wpAny_bind (wpAny_standAt (wpAny_bind ?_))
  have h : tScG O0 Ad wi g tt te (own.map (·.2)) σ H (fun x H1 => gName i x σ H1 D0.nx) := h
  show wpAny _ X.A (do let _ ← comprehension (.SetComp elt [⟨tg, iter, ifs, 0⟩] scope pos) scope X.env (firstIterPos [⟨tg, iter, ifs, 0⟩] pos) (newSet (.type "set")) false (eval iter X.env) (some (assign (.Name y py) X.env))) _ _ s
  exact wpAny_bind (thn (scG_core SG hc hN hi ok hg ht he hs I h fun Lo A0 sq mm Hq Iq q hns f => named hN hy hyl Iq q hns f) fun _ s' hq => wpAny_pure (wpAny_pure hq))
/-- .. of a dict -/
theorem ps_setDc {kx vx : Expr} {tk tv : TE} {i : Nat} {y : PySem.Str} {py spos : Pos} (hc : X.calm = true) (hN : X.N.Nodup) (hy : X.N[i]? = some y) (hyl : X.env.scope.names.lookup y = some .local)
    (hsw : swapsWith (.DictComp kx vx [⟨tg, iter, ifs, 0⟩] scope pos) (some (.Name y py)) spos.line X.env = pure true) (hi : PI X tg iter wi)
    (ok : BlkOk X.N X.env.scope scope own) (hg : ∀ (sh : Shared) (Hh : Hp) (A0 : Addr) (cl : List (PySem.Str × Addr)) (fp : List Addr), PG (X.blk sh Hh scope (compEnvC scope cl A0 X.env) fp) tg g)
    (ht : ∀ (sh : Shared) (Hh : Hp) (A0 : Addr) (cl : List (PySem.Str × Addr)) (fp : List Addr), PTs (X.blk sh Hh scope (compEnvC scope cl A0 X.env) fp) ifs tt)
    (hk : ∀ (sh : Shared) (Hh : Hp) (A0 : Addr) (cl : List (PySem.Str × Addr)) (fp : List Addr), PE (X.blk sh Hh scope (compEnvC scope cl A0 X.env) fp) kx tk)
    (he : ∀ (sh : Shared) (Hh : Hp) (A0 : Addr) (cl : List (PySem.Str × Addr)) (fp : List Addr), PE (X.blk sh Hh scope (compEnvC scope cl A0 X.env) fp) vx tv)
    (hs : ∀ x, foldedSetIterable iter X.env x = pure x := by intro _; rfl) :
    PS X (.Assign [.Name y py] (.DictComp kx vx [⟨tg, iter, ifs, 0⟩] scope pos) spos) (tAsg (tDc wi g tt tk tv (own.map (·.2))) (gName i)) := by
  refine ⟨fun pins s σ H D0 I h => ?_⟩
  rw [exec_Assign_Name_used _ _ _ _ hsw]
  refine wpAny_bind (wpAny_standAt (wpAny_bind ?_))
  have h : tDc wi g tt tk tv (own.map (·.2)) σ H (fun x H1 => gName i x σ H1 D0.nx) := h
  show wpAny _ X.A (do let _ ← comprehension (.DictComp kx vx [⟨tg, iter, ifs, 0⟩] scope pos) scope X.env (firstIterPos [⟨tg, iter, ifs, 0⟩] pos) newDict false (eval iter X.env) (some (assign (.Name y py) X.env))) _ _ s
  exact wpAny_bind (thn (dc_core hc hN I hi ok hg ht hk he hs h fun Lo A0 sq mm Hq Iq q hns f => named hN hy hyl Iq q hns f) fun _ s' hq => wpAny_pure (wpAny_pure hq))
end
end
/-! ### ints; ints and texts -/
def AdO (w : World) (D : Addr) (y : V) (o o' : HO) : Prop := ∃ (k : Int) (S : Int → Bool) (n : Nat), y = .int k ∧ o = SetO w D S n ∧ n + 1 < scanBound ∧ o' = SetO w D (fun j => S j || decide (j = k)) (if S k = true then n else n + 1)
theorem setG_O {P : Program} {w : World} : SetG P w (fun D => SetO w D (fun _ => false) 0) (AdO w) := by
  refine ⟨fun H h => setO_new (setR_fresh w), ?_⟩
  intro X pins σ H s E D y u o o' Q hP hw I hD ad ru k
  subst hP hw
  obtain ⟨i, S, n, rfl, rfl, room, rfl⟩ := ad
  obtain ⟨t, rfl⟩ := ru
  refine setR_add (setO_get I hD) room fun h' sb new => ?_
  have he : ∃ u, h'.get? D = some u := by
    have ⟨o, _, _, _, ho, _⟩ := new
    exact ⟨o, ho⟩
  exact k _ (I.write (e := D) (t' := s.toks + 1) (by rw [hD]; trivial) (.inl rfl) (fun b u hb hu => (sb.2 b hb).trans hu) he (setO_new new))
def AdK (P : Program) (w : World) (D : Addr) (y : V) (o o' : HO) : Prop := ∃ (k : Key) (S : Key → Bool) (n : Nat), y = kV k ∧ o = SetK P w D S n ∧ n + 1 < scanBound ∧ o' = SetK P w D (fun j => S j || decide (j = k)) (if S k = true then n else n + 1)
theorem setG_K {P : Program} {w : World} : SetG P w (fun D => SetK P w D (fun _ => false) 0) (AdK P w) := by
  refine ⟨fun H h => setK_new ⟨_, #[], 0, _, Heap.get?_push_size _ rfl, ⟨rfl, rfl, rfl⟩, rfl, (fun e he => by simp at he), (fun k => by simp), (by decide), (by rfl), rfl⟩, ?_⟩
  intro X pins σ H s E D y u o o' Q hP hw I hD ad ru k
  subst hP hw
  obtain ⟨q, S, n, rfl, rfl, room, rfl⟩ := ad
  refine call_set_add (kV_is ru) (key_scan ru) (setK_get I hD) room fun h' sb new => ?_
  have he : ∃ u, h'.get? D = some u := by
    have ⟨o, _, _, _, ho, _⟩ := new
    exact ⟨o, ho⟩
  exact k _ (I.write (e := D) (t' := s.toks + 1) (by rw [hD]; trivial) (.inl rfl) (fun b u hb hu => (sb.2 b hb).trans hu) he (setK_new new))
end Mi

set_option maxHeartbeats 4000000
namespace Mi
open PySem PySem.Spec PyProof.Rows L2 RZ Ov PpSet

section
variable {N : Cn} {C : Ct} {Z H Z' H' : Hp} {F F' G Fv : List Addr} {σ : L2.St}
theorem walk_gen {J : It} {n : Nat} {G : Hp → Prop} {Y : Nat → Hp → V → Hp → Prop} (w : Walk J n G Y) {S : (Hp → Prop) → V → Hp → Prop} {H0 : Hp} {Qd : Hp → Prop} (Pv : Nat → Hp → Prop) (h0 : Pv 0 H0) (hG : ∀ i H, i ≤ n → Pv i H → G H)
    (hs : ∀ i x H H', i < n → Pv i H → Y i H x H' → S (Pv (i + 1)) x H') (hd : ∀ H, Pv n H → Qd H) :
    ∃ W : Nat → Nat → Hp → Prop, (∃ m, W 0 m H0) ∧ ∀ i m H, W i m H → (J.stop i H ∧ Qd H) ∨ (J.go i H ∧ ∃ Nx : Hp → Prop, (∀ H', Nx H' → ∃ m', m' < m ∧ W (i + 1) m' H') ∧ ∀ x H', J.yld i H x H' → S Nx x H') := by
  refine ⟨fun i m H => m = n - i ∧ i ≤ n ∧ Pv i H, ⟨n, by simp, Nat.zero_le _, h0⟩, ?_⟩
  rintro i m H ⟨rfl, hi, p⟩
  have q := hG i H hi p
  by_cases hlt : i < n
  · exact .inr ⟨w.goes i H hlt q, Pv (i + 1), fun H' p' => ⟨n - (i + 1), by omega, rfl, hlt, p'⟩, fun x H' y => hs i x H H' hlt p (w.yields i H x H' hlt q y)⟩
  · obtain rfl : i = n := by omega
    exact .inl ⟨w.stops H q, hd H p⟩
/-- a comprehension that fills one new object with frozen things -/
def tCompK (O0 : Addr → HO) (Kt : Addr → (Hp → Prop) → List V → Hp → Prop) (wi : TI) (g : TG) (tt : TT) (body : TA) (vs : List Nat) : TE := fun σ H Q => wi σ H fun J H1 => ∀ D, H1 D = none →
  ∃ W : Nat → Nat → Hp → Prop, (∃ m, W 0 m (upd H1 D (O0 D))) ∧ ∀ i m H, W i m H →
    (J.stop i H ∧ Q (.ref D) H) ∨ (J.go i H ∧ ∃ Nx : Hp → Prop, (∀ H', Nx H' → ∃ m', m' < m ∧ W (i + 1) m' H') ∧ ∀ x H', J.yld i H x H' →
      g x (wipe σ vs) H' fun σ2 H2 => wipe σ2 vs = wipe σ vs ∧ tt σ2 H2 fun b H3 => if b = true then body σ2 H3 fun ys H4 => Kt D Nx ys H4 else Nx H3)
def cF {α : Type} (g : MG) (c : MB) (m : ML) (ws : List Nat) (add : α → List D → Option α) : List D → α → Env → R α
  | [], acc, env => .ok acc env
  | d :: ds, acc, env => match g d env with
    | none => .no
    | some e => (c e).bind0 fun b e => if b then (m e).bind0 fun ys e => (match add acc ys with | some acc' => cF g c m ws add ds acc' (wipeE e ws) | none => .no)
      else cF g c m ws add ds acc (wipeE e ws)
def eComp {α : Type} (it : MI) (g : MG) (c : MB) (m : ML) (ws : List Nat) (add : α → List D → Option α) (a0 : α) (fin : α → D) : ME := fun env => (it env).bind fun ds e => (cF g c m ws add ds a0 (wipeE e ws)).bind0 fun r e => .ok (fin r) e
theorem re_comp {α : Type} {s1 s2 : Bool} {ws : List Nat} {wi : TI} {it : MI} {g : TG} {mg : MG} {tt : TT} {c : MB} {body : TA} {m : ML} {O0 : Addr → HO} {Kt : Addr → (Hp → Prop) → List V → Hp → Prop}
    {add : α → List D → Option α} {a0 : α} {fin : α → D} (Acc : Hp → α → Addr → HO → Prop) (own : Bool)
    (mono : ∀ {Z Z' a D o}, Same Z Z' → Acc Z a D o → Acc Z' a D o) (h00 : ∀ Z D, Acc Z a0 D (O0 D))
    (hadd : ∀ {Z H D o a a' as us Fs Nx}, RdL N.C Z H as us Fs → add a as = some a' → H D = some o → Acc Z a D o → (∀ o', Acc Z a' D o' → Nx (upd H D o')) → Kt D Nx us H)
    (hfin : ∀ {Z H a D o}, H D = some o → Acc Z a D o → if own = true then RdV N.C Z H (fin a) (.ref D) [D] else RdV N.C (upd Z D o) H (fin a) (.ref D) [])
    (hi : RefI N wi it) (hg : RefG N.calm ws g mg) (hc : RefB N.calm s1 tt c) (he : RefA N.calm s2 body m) :
    RefE N false (tCompK O0 Kt wi g tt body ws) (eComp it mg c m ws add a0 fin) := fun env σ Z H F Q o r w => by
  refine hi env σ Z H F _ o r (w.bind.mono (Pin.refl _ _) (Ext.refl o) ?_)
  intro ds env1 k J Z1 H1 F1 x1 r1 wk Dn hD
  cases hfn : cF mg c m ws add ds a0 (wipeE env1 ws) with
  | ex => rw [hfn] at k; exact k.elim
  | no => rw [hfn] at k; exact k.elim
  | ok res envF =>
  rw [hfn] at k
  obtain ⟨F2, sF2, rF2⟩ := r1.wipe' (ws := ws)
  have xn := Ext.new (o := O0 Dn) x1.ok hD
  have x2 : Ext Z1 H1 F1 Z1 (upd H1 Dn (O0 Dn)) ([Dn] ++ F2) := xn.sub (by
    refine List.nodup_cons.mpr ⟨fun z => ?_, sF2.nodup x1.ok.nd⟩
    exact (List.nodup_cons.mp xn.ok.nd).1 (sF2.mem z)) fun a ha => by
      rcases List.mem_cons.mp ha with rfl | ha
      · exact List.mem_cons_self ..
      · exact List.mem_cons_of_mem _ (sF2.mem ha)
  refine walk_gen wk (fun i H2 => ∃ e2 Z2 F2 acc ob, Ext Z1 H1 F1 Z2 H2 ([Dn] ++ F2) ∧ RdE N.C Z2 H2 (wipeE e2 ws) (wipe σ ws) F2 ∧ H2 Dn = some ob ∧ Acc Z2 acc Dn ob ∧
      cF mg c m ws add (ds.drop i) acc (wipeE e2 ws) = .ok res envF) ?_ ?_ ?_ ?_
  · refine ⟨env1, Z1, F2, a0, O0 Dn, x2, ?_, upd_same, h00 _ _, by simpa using hfn⟩
    refine RdE.wiped (σ := σ) ?_ (wipe_len ws) (fun i hi => wipe_get hi)
    exact rF2.same (Same.refl _) (same_new hD)
  · rintro i H2 _ ⟨e2, Z2, F2, acc, ob, x2, _⟩
    exact x2.zz.trans x2.ok.zh
  · rintro i xv H2 H3 hlt ⟨e2, Z2, F2, acc, ob, x2, r2, hDn, ra, hf⟩ y
    obtain ⟨d, Z3, ed, x3, rv, r3, _⟩ := y.state x2.zz x2.ok.split r2
    have hl : i < ds.length := hlt
    have e3 : ds.drop i = d :: ds.drop (i + 1) := by
      rw [List.drop_eq_getElem_cons hl]
      congr 1
      rw [List.getElem?_eq_getElem hl] at ed
      exact Option.some.inj ed
    rw [e3, cF] at hf
    cases q : mg d (wipeE e2 ws) with
    | none => rw [q] at hf; cases hf
    | some env3 =>
      rw [q] at hf
      obtain ⟨b, env4, hb, hf⟩ := bind0_ok hf
      have y3 := x3.hold x2.ok
      refine hg (wipeE e2 ws) (wipe σ ws) Z3 H3 F2 [] d xv _ env3 (by simpa using x3.ok) r3 rv q fun σ4 F4 h1 h2 h3 h4 => ⟨?_, ?_⟩
      · rw [wipe_eq (σ := wipe σ ws) h3.1 h3.2]
        exact wipe_eq (wipe_len ws) (fun i hi => wipe_get hi)
      have o4 : Ok Z3 H3 ([Dn] ++ F4) := y3.ok.sub (by
        refine List.nodup_append.mpr ⟨nodup_left y3.ok.nd, h1, fun a ha b hb e => ?_⟩
        subst e
        exact y3.ok.disj a ha (by simpa using h2 a hb)) fun a ha => by
          rcases List.mem_append.mp ha with z | z
          · exact List.mem_append_left _ z
          · exact List.mem_append_right _ (by simpa using h2 a z)
      have x4 : Ext Z2 H2 ([Dn] ++ F2) Z3 H3 ([Dn] ++ F4) := y3.sub o4.nd fun a ha => by
        rcases List.mem_append.mp ha with z | z
        · exact List.mem_append_left _ z
        · exact List.mem_append_right _ (by simpa using h2 a z)
      refine hc env3 σ4 Z3 H3 F4 _ o4.split h4 (Wp.calm ⟨b, env4, hb, ?_⟩)
      intro Z5 H5 F5 x5 r5 _
      have y5 := x5.hold o4
      have D3 : H3 Dn = some ob := x3.at (x2.ok.disj Dn (List.mem_cons_self ..)) hDn
      have D5 : H5 Dn = some ob := x5.at (o4.disj Dn (List.mem_cons_self ..)) D3
      have ra5 : Acc Z5 acc Dn ob := mono x5.zz (mono x3.zz ra)
      cases b with
      | false =>
        rw [if_neg Bool.false_ne_true] at hf ⊢
        obtain ⟨F6, s6, r6⟩ := r5.wipe' (ws := ws)
        refine ⟨env4, Z5, F6, acc, ob, ?_, r6.wiped h3.1.symm (fun i hi => (h3.2 i hi).symm), D5, ra5, hf⟩
        refine ((x2.trans x4).trans y5).sub (List.nodup_append.mpr ⟨nodup_left y5.ok.nd, s6.nodup (nodup_right y5.ok.nd), fun a ha b hb e => ?_⟩) fun a ha => ?_
        · subst e
          exact y5.ok.disj a ha (s6.mem hb)
        · rcases List.mem_append.mp ha with z | z
          · exact List.mem_append_left _ z
          · exact List.mem_append_right _ (s6.mem z)
      | true =>
        rw [if_pos rfl] at hf ⊢
        obtain ⟨dys, env6, hy, hf⟩ := bind0_ok hf
        cases had : add acc dys with
        | none => simp only [had] at hf; cases hf
        | some acc' =>
        simp only [had] at hf
        refine he env4 σ4 Z5 H5 F5 _ y5.ok.split r5 (Wp.calm ⟨dys, env6, hy, ?_⟩)
        intro yvs Z6 H6 Fy F6 x6 ry r6 _
        have y6 : Ext Z5 H5 ([Dn] ++ F5) Z6 H6 ([Dn] ++ (Fy ++ F6)) := x6.hold y5.ok
        have D6 : H6 Dn = some ob := x6.at (y5.ok.disj Dn (List.mem_cons_self ..)) D5
        refine hadd ry had D6 (mono x6.zz ra5) fun ob' ra' => ?_
        obtain ⟨F7, s7, r7⟩ := r6.wipe' (ws := ws)
        have nd6 := y6.ok.nd
        have hDm : Dn ∈ [Dn] ++ (Fy ++ F6) := by simp
        have x7 := Ext.mut (o := ob') y6.ok hDm
        have hn : Dn ∉ Fy ∧ Dn ∉ F6 := by
          simp only [List.cons_append, List.nil_append, List.nodup_cons, List.mem_append, not_or] at nd6
          exact nd6.1
        refine ⟨env6, Z6, F7, acc', ob', ?_, ?_, upd_same, ra', hf⟩
        · refine (((x2.trans x4).trans y5).trans (y6.trans x7)).sub ?_ fun a ha => ?_
          · refine List.nodup_cons.mpr ⟨fun z => hn.2 (s7.mem z), s7.nodup (nodup_right (nodup_right nd6))⟩
          · rcases List.mem_cons.mp ha with z | z
            · subst z; simp
            · exact List.mem_append_right _ (List.mem_append_right _ (s7.mem z))
        · exact RdE.mut (r7.wiped h3.1.symm (fun i hi => (h3.2 i hi).symm)) fun z => hn.2 (s7.mem z)
  · rintro H2 ⟨e2, Z2, F2, acc, ob, x2, r2, hDn, ra, hf⟩
    rw [List.drop_length, cF] at hf
    cases hf
    have hr := hfin hDn ra
    have re : RdE N.C Z2 H2 (wipeE e2 ws) σ F2 := r2.wiped (wipe_len ws).symm (fun i hi => (wipe_get hi).symm)
    cases own with
    | true => exact k (.ref Dn) Z2 H2 [Dn] F2 (x1.trans x2) hr re fun z => by cases z
    | false =>
      have y := Ext.freeze (G := [Dn]) (F := F2) x2.ok
      have eZ : Zw Z2 H2 [Dn] = upd Z2 Dn ob := by
        funext b
        unfold Zw upd
        by_cases e : b = Dn
        · subst e; simp [hDn]
        · simp [e]
      rw [eZ] at y
      exact k (.ref Dn) _ H2 [] F2 (x1.trans (x2.trans y)) hr (re.same y.zz (Same.refl _)) fun z => by cases z
/-! ### dicts -/
def addKD (kvs : List (D × D)) : List D → Option (List (D × D))
  | [k, d] => match keyD k with | some _ => if kvs.length < sizeLine && fzn d then some (putKD kvs k d) else none | none => none
  | _ => none
def eDc (it : MI) (g : MG) (c : MB) (mk mv : ME) (ws : List Nat) : ME := eComp it g c (lCons mk (lCons mv lNil)) ws addKD [] (fun kvs => .dct true kvs)
theorem RdK.zmono {kvs : List (D × D)} {us : List (Key × V)} (zz : Same Z Z') (h : RdK C Z H kvs us []) (H' : Hp) : RdK C Z' H' kvs us [] := RdK.mono zz kvs us [] (fun a ha => by cases ha) h
theorem re_dc {s1 s2 s3 : Bool} {ws : List Nat} {wi : TI} {it : MI} {g : TG} {mg : MG} {tt : TT} {c : MB} {tk tv : TE} {mk mv : ME} (hi : RefI N wi it) (hg : RefG N.calm ws g mg) (hc : RefB N.calm s1 tt c) (hk : RefE N.calm s2 tk mk) (hv : RefE N.calm s3 tv mv) :
    RefE N false (tDc wi g tt tk tv ws) (eDc it mg c mk mv ws) := by
  refine re_comp (O0 := fun _ => .dK []) (Kt := fun D Nx ys H5 => match ys with | [y, z] => ∃ kvs k, y = kV k ∧ H5 D = some (.dK kvs) ∧ kvs.length < sizeLine ∧ Nx (upd H5 D (.dK (putK kvs k z))) | _ => False)
    (fun Z a D o => ∃ us, o = .dK us ∧ RdK N.C Z (fun _ => none) a us []) true ?_ ?_ ?_ ?_ hi hg hc (ra_cons hk (ra_cons hv ra_nil))
  · rintro Z Z' a D o zz ⟨us, rfl, h⟩
    exact ⟨us, rfl, h.zmono zz _⟩
  · intro Z D
    exact ⟨[], rfl, by simp [RdK]⟩
  · rintro Z H D o a a' as us Fs Nx rl had hD ⟨kus, rfl, rk⟩ hN
    unfold addKD at had
    split at had
    · rename_i k d
      cases hk : keyD k with
      | none => simp only [hk] at had; cases had
      | some q =>
      simp only [hk] at had
      split at had
      case isFalse => cases had
      rename_i hz
      cases had
      rw [Bool.and_eq_true, decide_eq_true_eq] at hz
      rw [RdL] at rl
      obtain ⟨yv, r, G1, G2, rfl, rfl, rky, rl⟩ := rl
      rw [RdL] at rl
      obtain ⟨zv, r, G3, G4, rfl, rfl, rz, rl⟩ := rl
      rw [RdL] at rl
      obtain ⟨rfl, rfl⟩ := rl
      have := RdV.fzn d zv G3 hz.2 rz
      subst this
      obtain rfl := kD_key hk
      refine ⟨kus, q, rky.key hk, hD, by rw [← rk.length]; exact hz.1, hN _ ?_⟩
      obtain ⟨F', s1, r1⟩ := RdK.put0 (k := q) (rz.frozen (Same.refl _) (fun _ => none)) rk
      have : F' = [] := by simpa using s1
      subst this
      exact ⟨_, rfl, r1⟩
    · cases had
  · rintro Z H a D o hD ⟨us, rfl, rk⟩
    rw [if_pos rfl, RdV]
    exact ⟨D, us, [], rfl, hD, rfl, rk.zmono (Same.refl _) _⟩
/-! ### sets -/
def addSI (ns : List Int) : List D → Option (List Int)
  | [.int i] => if ns.length < 1000 then some (if (ns.any fun q => decide (i = q)) = true then ns else ns ++ [i]) else none
  | _ => none
def addST (xs : List Str) : List D → Option (List Str)
  | [.str i] => if xs.length < 1000 then some (if (xs.any fun q => decide (i = q)) = true then xs else xs ++ [i]) else none
  | _ => none
/-- a set of ints, or of texts -/
def eSc (it : MI) (g : MG) (c : MB) (m : ME) (ws : List Nat) : ME := fun env => match eComp it g c (lCons m lNil) ws addSI [] (fun ns => .set (ns.map .int)) env with
  | .no => eComp it g c (lCons m lNil) ws addST [] (fun xs => .set (.non :: xs.map .str)) env
  | r => r
def tSc2 (P : Program) (w : World) (wi : TI) (g : TG) (tt : TT) (te : TE) (vs : List Nat) : TE := fun σ H Q =>
  tScG (fun D => SetO w D (fun _ => false) 0) (AdO w) wi g tt te vs σ H Q ∨ tScG (fun D => SetK P w D (fun _ => false) 0) (AdK P w) wi g tt te vs σ H Q
theorem pe_sc2 {X : Cx} {elt tg iter : Expr} {ifs : List Expr} {scope : Scope} {own : List (PySem.Str × Nat)} {pos : Pos} {wi : TI} {g : TG} {tt : TT} {te : TE} (hc : X.calm = true) (hN : X.N.Nodup) (hi : PI X tg iter wi)
    (ok : BlkOk X.N X.env.scope scope own) (hg : ∀ (sh : Shared) (Hh : Hp) (A0 : Addr) (cl : List (PySem.Str × Addr)) (fp : List Addr), PG (X.blk sh Hh scope (compEnvC scope cl A0 X.env) fp) tg g)
    (ht : ∀ (sh : Shared) (Hh : Hp) (A0 : Addr) (cl : List (PySem.Str × Addr)) (fp : List Addr), PTs (X.blk sh Hh scope (compEnvC scope cl A0 X.env) fp) ifs tt)
    (he : ∀ (sh : Shared) (Hh : Hp) (A0 : Addr) (cl : List (PySem.Str × Addr)) (fp : List Addr), PE (X.blk sh Hh scope (compEnvC scope cl A0 X.env) fp) elt te)
    (hs : ∀ x, foldedSetIterable iter X.env x = pure x := by intro _; rfl) :
    PE X (.SetComp elt [⟨tg, iter, ifs, 0⟩] scope pos) (tSc2 X.prog X.w wi g tt te (own.map (·.2))) :=
  ⟨fun pins s σ H Q I h => h.elim ((pe_scG setG_O hc hN hi ok hg ht he hs).run pins s σ H Q I) ((pe_scG setG_K hc hN hi ok hg ht he hs).run pins s σ H Q I)⟩
theorem any_snoc {α : Type} [DecidableEq α] (l : List α) (k : α) : (fun j => (l.any fun q => decide (j = q)) || decide (j = k)) = fun j => (l ++ [k]).any fun q => decide (j = q) := by
  funext j
  rw [List.any_append]
  simp
theorem any_old {α : Type} [DecidableEq α] (l : List α) (k : α) (h : (l.any fun q => decide (k = q)) = true) : (fun j => (l.any fun q => decide (j = q)) || decide (j = k)) = fun j => l.any fun q => decide (j = q) := by
  funext j
  by_cases e : j = k
  · subst e
    rw [h]; rfl
  · rw [decide_eq_false e, Bool.or_false]
theorem nodup_snoc {α : Type} [DecidableEq α] {l : List α} {k : α} (nd : l.Nodup) (h : ¬ (l.any fun q => decide (k = q)) = true) : (l ++ [k]).Nodup := by
  rw [List.nodup_append]
  refine ⟨nd, by simp, fun a ha b hb e => ?_⟩
  have := List.mem_singleton.mp hb
  subst this e
  exact h (List.any_eq_true.mpr ⟨a, ha, by simp⟩)
theorem re_scO {s1 s2 : Bool} {ws : List Nat} {wi : TI} {it : MI} {g : TG} {mg : MG} {tt : TT} {c : MB} {te : TE} {m : ME} (hi : RefI N wi it) (hg : RefG N.calm ws g mg) (hc : RefB N.calm s1 tt c) (he : RefE N.calm s2 te m) :
    RefE N false (tScG (fun D => SetO N.C.w D (fun _ => false) 0) (AdO N.C.w) wi g tt te ws) (eComp it mg c (lCons m lNil) ws addSI [] (fun ns => .set (ns.map .int))) := by
  refine re_comp (Kt := fun D Nx ys H4 => match ys with | [y] => ∃ o o', H4 D = some o ∧ AdO N.C.w D y o o' ∧ Nx (upd H4 D o') | _ => False)
    (fun Z ns D o => ns.Nodup ∧ ns.length ≤ 1000 ∧ o = SetO N.C.w D (fun k => ns.any fun q => decide (k = q)) ns.length) false ?_ ?_ ?_ ?_ hi hg hc (ra_cons he ra_nil)
  · rintro Z Z' a D o zz h
    exact h
  · intro Z D
    exact ⟨List.nodup_nil, by simp, rfl⟩
  · rintro Z H D o a a' as us Fs Nx rl had hD ⟨nd, hl, rfl⟩ hN
    unfold addSI at had
    split at had
    · rename_i i
      split at had
      case isFalse => cases had
      rename_i hz
      cases had
      rw [RdL] at rl
      obtain ⟨yv, r, G1, G2, rfl, rfl, ry, rl⟩ := rl
      rw [RdL] at rl
      obtain ⟨rfl, rfl⟩ := rl
      have room : a.length + 1 < scanBound := Nat.lt_of_lt_of_le (m := 1001) (by omega) (by decide)
      refine ⟨_, _, hD, ⟨i, _, _, ry.intI, rfl, room, rfl⟩, hN _ ?_⟩
      by_cases hk : (a.any fun q => decide (i = q)) = true
      · rw [if_pos hk, if_pos hk, any_old a i hk]
        exact ⟨nd, hl, rfl⟩
      · rw [if_neg hk, if_neg hk, any_snoc]
        exact ⟨nodup_snoc nd hk, by rw [List.length_append]; simp; omega, by rw [List.length_append]; rfl⟩
    · cases had
  · rintro Z H a D o hD ⟨nd, hl, rfl⟩
    rw [if_neg Bool.false_ne_true, RdV]
    exact ⟨rfl, D, _, rfl, upd_same, .inr ⟨a, rfl, nd, rfl⟩⟩
theorem re_scK {s1 s2 : Bool} {ws : List Nat} {wi : TI} {it : MI} {g : TG} {mg : MG} {tt : TT} {c : MB} {te : TE} {m : ME} (hi : RefI N wi it) (hg : RefG N.calm ws g mg) (hc : RefB N.calm s1 tt c) (he : RefE N.calm s2 te m) :
    RefE N false (tScG (fun D => SetK N.C.P N.C.w D (fun _ => false) 0) (AdK N.C.P N.C.w) wi g tt te ws) (eComp it mg c (lCons m lNil) ws addST [] (fun xs => .set (.non :: xs.map .str))) := by
  refine re_comp (Kt := fun D Nx ys H4 => match ys with | [y] => ∃ o o', H4 D = some o ∧ AdK N.C.P N.C.w D y o o' ∧ Nx (upd H4 D o') | _ => False)
    (fun Z xs D o => xs.Nodup ∧ xs.length ≤ 1000 ∧ o = SetK N.C.P N.C.w D (fun k => xs.any fun q => decide (k = Sum.inr q)) xs.length) false ?_ ?_ ?_ ?_ hi hg hc (ra_cons he ra_nil)
  · rintro Z Z' a D o zz h
    exact h
  · intro Z D
    exact ⟨List.nodup_nil, by simp, rfl⟩
  · rintro Z H D o a a' as us Fs Nx rl had hD ⟨nd, hl, rfl⟩ hN
    unfold addST at had
    split at had
    · rename_i i
      split at had
      case isFalse => cases had
      rename_i hz
      cases had
      rw [RdL] at rl
      obtain ⟨yv, r, G1, G2, rfl, rfl, ry, rl⟩ := rl
      rw [RdL] at rl
      obtain ⟨rfl, rfl⟩ := rl
      have room : a.length + 1 < scanBound := Nat.lt_of_lt_of_le (m := 1001) (by omega) (by decide)
      have eS : (a.any fun q => decide ((Sum.inr i : Key) = Sum.inr q)) = a.any fun q => decide (i = q) := by simp
      refine ⟨_, _, hD, ⟨Sum.inr i, _, _, ry.strI, rfl, room, rfl⟩, hN _ ?_⟩
      rw [eS]
      by_cases hk : (a.any fun q => decide (i = q)) = true
      · rw [if_pos hk, if_pos hk]
        refine ⟨nd, hl, ?_⟩
        congr 1
        funext j
        by_cases e : j = Sum.inr i
        · subst e; rw [eS, hk]; rfl
        · rw [decide_eq_false e, Bool.or_false]
      · rw [if_neg hk, if_neg hk]
        refine ⟨nodup_snoc nd hk, by rw [List.length_append]; simp; omega, ?_⟩
        rw [List.length_append]
        congr 1
        funext j
        rw [List.any_append]
        simp
    · cases had
  · rintro Z H a D o hD ⟨nd, hl, rfl⟩
    rw [if_neg Bool.false_ne_true, RdV]
    exact ⟨rfl, D, _, rfl, upd_same, .inl ⟨a, rfl, nd, rfl⟩⟩
theorem re_sc {s1 s2 : Bool} {ws : List Nat} {wi : TI} {it : MI} {g : TG} {mg : MG} {tt : TT} {c : MB} {te : TE} {m : ME} (hi : RefI N wi it) (hg : RefG N.calm ws g mg) (hc : RefB N.calm s1 tt c) (he : RefE N.calm s2 te m) :
    RefE N false (tSc2 N.C.P N.C.w wi g tt te ws) (eSc it mg c m ws) := fun env σ Z H F Q o r w => by
  unfold eSc at w
  cases e : eComp it mg c (lCons m lNil) ws addSI [] (fun ns => .set (ns.map .int)) env with
  | no =>
    simp only [e] at w
    exact .inr (re_scK hi hg hc he env σ Z H F Q o r w)
  | ok a e1 =>
    simp only [e] at w
    exact .inl (re_scO hi hg hc he env σ Z H F Q o r (by rw [e]; exact w))
  | ex x e1 =>
    simp only [e] at w
    exact .inl (re_scO hi hg hc he env σ Z H F Q o r (by rw [e]; exact w))
end
end Mi

set_option maxHeartbeats 4000000
namespace Mi
open PySem PySem.Spec PyProof.Rows L2 RZ Ov PpSet

/-! ### a text and its mirror -/
structure Ag (X : Cx) (N : Cn) : Prop where
  K : X.K = N.C.K
  P : X.prog = N.C.P
  w : X.w = N.C.w
def QE (X : Cx) (N : Cn) (st : Bool) (e : Expr) (m : ME) : Prop := ∃ t, PE X e t ∧ RefE N st t m
def QT (X : Cx) (N : Cn) (st : Bool) (e : Expr) (m : ME) : Prop := ∃ t, PE X e t ∧ RefT N st t m
def QB (X : Cx) (N : Cn) (st : Bool) (e : Expr) (m : MB) : Prop := ∃ t, PT X e t ∧ RefB N st t m
def QW (X : Cx) (N : Cn) (st : Bool) (e : Expr) (m : MB) : Prop := ∃ t, PW X e t ∧ RefB N st t m
def QA (X : Cx) (N : Cn) (st : Bool) (es : List Expr) (m : ML) : Prop := ∃ t, PA X es t ∧ RefA N st t m
def QTA (X : Cx) (N : Cn) (st : Bool) (es : List Expr) (m : ML) : Prop := ∃ t, PA X es t ∧ RefTA N st t m
def QM (X : Cx) (N : Cn) (st : Bool) (es : List Expr) (as : List Arg) : Prop := ∃ t, PA X es t ∧ RefM N st t as
def QO (X : Cx) (N : Cn) (e : Option Expr) (m : MO) : Prop := ∃ t, PO X e t ∧ RefO N t m
def QI (X : Cx) (N : Cn) (tg e : Expr) (m : MI) : Prop := ∃ t, PI X tg e t ∧ RefI N t m
def QG (X : Cx) (N : Cn) (ws : List Nat) (e : Expr) (m : MG) : Prop := ∃ t, PG X e t ∧ RefG N ws t m
def QGs (X : Cx) (N : Cn) (ws : List Nat) (n : Nat) (es : List Expr) (m : MGs) : Prop := ∃ t, PGs X es t ∧ RefGs N ws n t m
def QS (X : Cx) (N : Cn) (s : Stmt) (m : MS) : Prop := ∃ t, PS X s t ∧ RefS N t m
def QSs (X : Cx) (N : Cn) (s : List Stmt) (m : MS) : Prop := ∃ t, PSs X s t ∧ RefS N t m
section
variable {X : Cx} {N : Cn} {st s1 s2 s3 : Bool} {a b c e o : Expr} {es : List Expr} {m n l : ME} {pos apos : Pos}
theorem QE.t (h : QE X N st e m) : QT X N st e m := let ⟨t, p, r⟩ := h; ⟨t, p, r.toT⟩
theorem QT.k (h : QT X N st e m) : QE X N st e (eK m) := let ⟨t, p, r⟩ := h; ⟨t, p, re_k r⟩
theorem QE.fz (h : QE X N st e m) : QE X N st e (eFz m) := let ⟨t, p, r⟩ := h; ⟨t, p, re_fz r⟩
theorem q_int {i : Int} {j : Nat} : QE X N true (.Constant (.int i) j pos) (eC (.int i)) := ⟨_, pe_int, re_int⟩
theorem q_bl {i : Bool} {j : Nat} : QE X N true (.Constant (.bool i) j pos) (eC (.bl i)) := ⟨_, pe_bl, re_bl⟩
theorem q_str {i : Str} {j : Nat} : QE X N true (.Constant (.str i) j pos) (eC (.str i)) := ⟨_, pe_str, re_str⟩
theorem q_non {j : Nat} : QE X N true (.Constant .none j pos) (eC .non) := ⟨_, pe_non, re_non⟩
theorem qv (i : Nat) {x : Str} (hN : X.N[i]? = some x := by rfl) (hv : Vis X.env.scope x := by first | exact Or.inl rfl | exact Or.inr (Or.inl rfl) | exact Or.inr (Or.inr rfl)) (hd : (x == ("__debug__" : Str)) = false := by decide) (hcd : (x == ("__classdict__" : Str)) = false := by decide) :
    QT X N true (.Name x pos) (eV i) := ⟨_, pe_var hN hv hd hcd, rt_v⟩
theorem qvz (i : Nat) {x : Str} (hN : X.N[i]? = some x := by rfl) (hv : Vis X.env.scope x := by first | exact Or.inl rfl | exact Or.inr (Or.inl rfl) | exact Or.inr (Or.inr rfl)) (hd : (x == ("__debug__" : Str)) = false := by decide) (hcd : (x == ("__classdict__" : Str)) = false := by decide) :
    QE X N true (.Name x pos) (eVz i) := ⟨_, pe_var hN hv hd hcd, re_vz⟩
theorem qmv (i : Nat) {x : Str} (hN : X.N[i]? = some x := by rfl) (hv : Vis X.env.scope x := by first | exact Or.inl rfl | exact Or.inr (Or.inl rfl) | exact Or.inr (Or.inr rfl)) (hd : (x == ("__debug__" : Str)) = false := by decide) (hcd : (x == ("__classdict__" : Str)) = false := by decide) :
    QE X N true (.Name x pos) (eMv i) := ⟨_, pe_var hN hv hd hcd, re_mv⟩
/-- a constant of the module -/
theorem q_gl {x : Str} {v : V} {d : D} (h : ∃ u, X.mg x = some u ∧ RelV v u) (hd : ∀ C Z H, RdV C Z H d v []) (hg : Gl X x := by rfl) (hdb : (x == ("__debug__" : Str)) = false := by decide) : QE X N true (.Name x pos) (eC d) := by
  obtain ⟨u, h1, h2⟩ := h
  exact ⟨_, pe_glob hg h1 h2 hdb, re_c fun Z H => hd N.C Z H⟩
theorem gl_int {i : Int} : ∀ C Z H, RdV C Z H (.int i) (.int i) [] := fun _ _ _ => rd_int
theorem gl_str {i : Str} : ∀ C Z H, RdV C Z H (.str i) (.str i) [] := fun _ _ _ => rd_str
/-! operators -/
theorem q_op {op : Operator} {r : R2} {f : D → D → Option D} (ho : OpR X (binaryOp op) r) (hf : Fn2 N.C r f) (ha : QT X N s1 a m) (hb : QT X N true b n) : QE X N s1 (.BinOp a op b pos) (e2 f m n) :=
  let ⟨_, p, q⟩ := ha; let ⟨_, p', q'⟩ := hb; ⟨_, pe_op ho p p', re_op hf q q'⟩
theorem q_opk {op : Operator} {r : R2} {f : D → D → Option D} (ho : OpR X (binaryOp op) r) (hf : Fn2 N.C r f) (ha : QE X N s1 a m) (hb : QT X N s2 b n) : QE X N (s1 && s2) (.BinOp a op b pos) (e2 f m n) :=
  let ⟨_, p, q⟩ := ha; let ⟨_, p', q'⟩ := hb; ⟨_, pe_op ho p p', re_opk hf q q'⟩
theorem q_cmp {op : CmpOp} {r : R2} {f : D → D → Option D} (ho : OpR X (compareOp op) r) (hf : Fn2 N.C r f) (ha : QT X N s1 a m) (hb : QT X N true b n) (hm : behindInMarks op b = false := by first | exact nomark _ | rfl) : QE X N s1 (.Compare a [op] [b] pos) (e2 f m n) :=
  let ⟨_, p, q⟩ := ha; let ⟨_, p', q'⟩ := hb; ⟨_, pe_cmpR ho p p' hm, re_op hf q q'⟩
theorem q_cmpk {op : CmpOp} {r : R2} {f : D → D → Option D} (ho : OpR X (compareOp op) r) (hf : Fn2 N.C r f) (ha : QE X N s1 a m) (hb : QT X N s2 b n) (hm : behindInMarks op b = false := by first | exact nomark _ | rfl) : QE X N (s1 && s2) (.Compare a [op] [b] pos) (e2 f m n) :=
  let ⟨_, p, q⟩ := ha; let ⟨_, p', q'⟩ := hb; ⟨_, pe_cmpR ho p p' hm, re_opk hf q q'⟩
theorem q_tcmp {op : CmpOp} {r : R2} {f : D → D → Option D} (ho : OpR X (compareOp op) r) (hf : Fn2 N.C r f) (ha : QT X N s1 a m) (hb : QT X N true b n) (hm : behindInMarks op b = false := by first | exact nomark _ | rfl) : QB X N s1 (.Compare a [op] [b] pos) (bB (e2 f m n)) :=
  let ⟨_, p, q⟩ := ha; let ⟨_, p', q'⟩ := hb; ⟨_, pt_cmpR ho p p' hm, rb_test (re_op hf q q').toT⟩
theorem q_tcmpk {op : CmpOp} {r : R2} {f : D → D → Option D} (ho : OpR X (compareOp op) r) (hf : Fn2 N.C r f) (ha : QE X N s1 a m) (hb : QT X N s2 b n) (hm : behindInMarks op b = false := by first | exact nomark _ | rfl) : QB X N (s1 && s2) (.Compare a [op] [b] pos) (bB (e2 f m n)) :=
  let ⟨_, p, q⟩ := ha; let ⟨_, p', q'⟩ := hb; ⟨_, pt_cmpR ho p p' hm, rb_test (re_opk hf q q').toT⟩
/-- a op b op' c -/
def eChain (f f' : D → D → Option D) (m n l : ME) : ME := fun env => (m env).bind fun x e => (n e).bind fun y e => match f x y with
  | some (.bl true) => (l e).bind fun z e => lift (f' y z) e
  | some (.bl false) => .ok (.bl false) e
  | _ => .no
theorem re_chain {t u v : TE} {r r' : R2} {f f' : D → D → Option D} (hf : Fn2 N.C r f) (hf' : Fn2 N.C r' f') (h : RefT N s1 t m) (hu : RefT N true u n) (hv : RefT N true v l) : RefE N s1 (tChain r r' t u v) (eChain f f' m n l) := fun env σ Z H F Q o re w => by
  refine h env σ Z H F _ o re (w.bind.mono (Pin.refl _ _) (Ext.refl o) ?_)
  intro d env1 k v1 Z1 H1 Fd F1 x1 rd r1 sm1
  refine hu env1 σ Z1 H1 F1 _ x1.ok r1 ((Wp.bind (k.mono (Pin.refl _ _) x1 fun _ _ z => z)).mono (Pin.refl _ _) (Ext.refl x1.ok) ?_)
  intro d2 env2 k2 v2 Z2 H2 Fd2 F2 x2 rd2 r2 sm2
  have rd' := rd.same x2.zz (sm2 rfl)
  cases hfd : f d d2 with
  | none => simp only [hfd] at k2; exact k2.elim
  | some q =>
  cases q with
  | bl b =>
    cases b with
    | false =>
      simp only [hfd] at k2
      refine hf d v1 Fd d2 v2 Fd2 Z2 H2 F2 _ _ x2.ok rd' rd2 hfd ?_
      intro u0 Z3 H3 Fv3 y3 ru s3
      refine ⟨false, ru.blI, ?_⟩
      rw [if_neg Bool.false_ne_true]
      exact k2 _ Z3 H3 [] F2 ((x1.trans x2).trans y3.right) rd_bl (r2.same y3.zz s3) fun z => ((sm1 z).trans (sm2 rfl)).trans s3
    | true =>
      simp only [hfd] at k2
      refine hf d v1 Fd d2 v2 Fd2 Z2 H2 F2 _ _ x2.ok rd' rd2 hfd ?_
      intro u0 Z3 H3 Fv3 y3 ru s3
      refine ⟨true, ru.blI, ?_⟩
      rw [if_pos rfl]
      have r3 := r2.same y3.zz s3
      refine hv env2 σ Z3 H3 F2 _ y3.right.ok r3 ((Wp.bind (k2.mono (Pin.refl _ _) (x2.trans y3.right) fun _ _ z => z)).mono (Pin.refl _ _) (Ext.refl y3.right.ok) ?_)
      intro d4 env4 k4 v4 Z4 H4 Fd4 F4 x4 rd4 r4 sm4
      obtain ⟨e, he⟩ := wp_lift k4
      exact hf' d2 v2 Fd2 d4 v4 Fd4 Z4 H4 F4 Q e x4.ok ((rd2.same y3.zz s3).same x4.zz (sm4 rfl)) rd4 he (post_end (((x1.trans x2).trans y3.right).trans x4) r4 (fun z => (((sm1 z).trans (sm2 rfl)).trans s3).trans (sm4 rfl)) he k4)
  | _ => simp only [hfd] at k2; exact k2.elim
theorem q_chain {op op' : CmpOp} {r r' : R2} {f f' : D → D → Option D} (ho : OpR X (compareOp op) r) (hf : Fn2 N.C r f) (ho' : OpR X (compareOp op') r') (hf' : Fn2 N.C r' f') (ha : QT X N s1 a m) (hb : QT X N true b n) (hc : QT X N true c l)
    (hm : lastMarks [op, op'] [b, c] = false := by with_unfolding_all rfl) : QE X N s1 (.Compare a [op, op'] [b, c] pos) (eChain f f' m n l) :=
  let ⟨_, p, q⟩ := ha; let ⟨_, p', q'⟩ := hb; let ⟨_, p2, q2⟩ := hc; ⟨_, pe_chain ho ho' p p' p2 hm, re_chain hf hf' q q' q2⟩
theorem q_tchain {op op' : CmpOp} {r r' : R2} {f f' : D → D → Option D} (ho : OpR X (compareOp op) r) (hf : Fn2 N.C r f) (ho' : OpR X (compareOp op') r') (hf' : Fn2 N.C r' f') (ha : QT X N s1 a m) (hb : QT X N true b n) (hc : QT X N true c l)
    (hm : lastMarks [op, op'] [b, c] = false := by with_unfolding_all rfl) : QB X N s1 (.Compare a [op, op'] [b, c] pos) (bB (eChain f f' m n l)) :=
  let ⟨_, p, q⟩ := ha; let ⟨_, p', q'⟩ := hb; let ⟨_, p2, q2⟩ := hc; ⟨_, pt_chain ho ho' p p' p2 hm, rb_test (re_chain hf hf' q q' q2).toT⟩
def fNeg : D → Option D
  | .int i => some (.int (-i))
  | _ => none
theorem q_neg (ha : QT X N s1 a m) : QE X N s1 (.UnaryOp .USub a pos) (e1 fNeg m) := by
  obtain ⟨_, p, q⟩ := ha
  refine ⟨_, pe_un un_neg p, re_un ?_ q⟩
  intro d v Fd Z H F Q e o rd hf k
  unfold fNeg at hf
  split at hf
  · cases hf
    exact ⟨_, rd.intI, post_val o k rd_int⟩
  · cases hf
/-! and, or, not as values -/
theorem q_one {op : BoolOp} (ha : QE X N s1 a m) : QE X N s1 (.BoolOp op [a] pos) m := let ⟨_, p, q⟩ := ha; ⟨_, pe_one p, q⟩
theorem q_and (ha : QT X N s1 a m) (hb : QE X N s2 (.BoolOp .And (b :: es) pos) n) : QE X N (s1 && s2) (.BoolOp .And (a :: b :: es) pos) (eAnd m n) := let ⟨_, p, q⟩ := ha; let ⟨_, p', q'⟩ := hb; ⟨_, pe_and p p', re_and q q'⟩
theorem q_or (ha : QT X N s1 a m) (hb : QE X N s2 (.BoolOp .Or (b :: es) pos) n) : QE X N (s1 && s2) (.BoolOp .Or (a :: b :: es) pos) (eOr m n) := let ⟨_, p, q⟩ := ha; let ⟨_, p', q'⟩ := hb; ⟨_, pe_or p p', re_or q q'⟩
theorem q_not (ha : QT X N s1 a m) : QE X N s1 (.UnaryOp .Not a pos) (eNot m) := let ⟨_, p, q⟩ := ha; ⟨_, pe_not p, re_not q⟩
variable {x y z : MB}
theorem q_ifx (hc : QB X N s1 c x) (ha : QE X N s2 a m) (hb : QE X N s3 b n) : QE X N (s1 && s2 && s3) (.IfExp c a b pos) (eIf x m n) := let ⟨_, p, q⟩ := hc; let ⟨_, p', q'⟩ := ha; let ⟨_, p2, q2⟩ := hb; ⟨_, pe_ifExp p p' p2, re_if q q' q2⟩
/-! tests -/
theorem q_tval (h : QT X N st e m) (he : ∀ whole, isTrue e X.env whole = (do let v ← whole; standAt e.pos; holding [v] (truthy v)) := by intro _; rfl) : QB X N st e (bB m) := let ⟨_, p, q⟩ := h; ⟨_, pt_val p he, rb_b q⟩
theorem q_tnot (h : QB X N st e x) : QB X N st (.UnaryOp .Not e pos) (bNot x) := let ⟨_, p, q⟩ := h; ⟨_, pt_not p, rb_not q⟩
theorem QW.t (h : QW X N st e x) : QB X N st e x := let ⟨_, p, q⟩ := h; ⟨_, p.pt, q⟩
theorem q_wand1 (h : QB X N st a x) : QW X N st (.BoolOp .And [a] pos) x := let ⟨_, p, q⟩ := h; ⟨_, pw_and1 p, q⟩
theorem q_wor1 (h : QB X N st a x) : QW X N st (.BoolOp .Or [a] pos) x := let ⟨_, p, q⟩ := h; ⟨_, pw_or1 p, q⟩
theorem q_wand (ha : QB X N s1 a x) (hb : QW X N s2 (.BoolOp .And (b :: es) pos) y) : QW X N (s1 && s2) (.BoolOp .And (a :: b :: es) pos) (bAnd x y) := let ⟨_, p, q⟩ := ha; let ⟨_, p', q'⟩ := hb; ⟨_, pw_and p p', rb_and q q'⟩
theorem q_wor (ha : QB X N s1 a x) (hb : QW X N s2 (.BoolOp .Or (b :: es) pos) y) : QW X N (s1 && s2) (.BoolOp .Or (a :: b :: es) pos) (bOr x y) := let ⟨_, p, q⟩ := ha; let ⟨_, p', q'⟩ := hb; ⟨_, pw_or p p', rb_or q q'⟩
/-! arguments -/
variable {ms : ML} {as : List Arg}
theorem qa_nil : QA X N true [] lNil := ⟨_, pa_nil, ra_nil⟩
theorem qa_cons (ha : QE X N s1 e m) (hs : QA X N s2 es ms) (h : starEach (e :: es) X.env = (false, eval e X.env) :: starEach es X.env := by rfl) : QA X N (s1 && s2) (e :: es) (lCons m ms) := let ⟨_, p, q⟩ := ha; let ⟨_, p', q'⟩ := hs; ⟨_, pa_cons p p' h, ra_cons q q'⟩
theorem qta_nil : QTA X N true [] lNil := ⟨_, pa_nil, rta_nil⟩
theorem qta_cons (ha : QT X N s1 e m) (hs : QTA X N true es ms) (h : starEach (e :: es) X.env = (false, eval e X.env) :: starEach es X.env := by rfl) : QTA X N s1 (e :: es) (lCons m ms) := let ⟨_, p, q⟩ := ha; let ⟨_, p', q'⟩ := hs; ⟨_, pa_cons p p' h, rta_cons q q'⟩
theorem QA.ta (h : QA X N st es ms) : QTA X N st es ms := let ⟨_, p, q⟩ := h; ⟨_, p, q.toTA⟩
theorem qm_nil : QM X N true [] [] := ⟨_, pa_nil, rm_nil⟩
theorem qm_e (ha : QE X N s1 e m) (hs : QM X N s2 es as) (h : starEach (e :: es) X.env = (false, eval e X.env) :: starEach es X.env := by rfl) : QM X N (s1 && s2) (e :: es) (.e m :: as) := let ⟨_, p, q⟩ := ha; let ⟨_, p', q'⟩ := hs; ⟨_, pa_cons p p' h, rm_e q q'⟩
theorem qm_io (i : Nat) {x : Str} (hs : QM X N s2 es as) (hN : X.N[i]? = some x := by rfl) (hv : Vis X.env.scope x := by first | exact Or.inl rfl | exact Or.inr (Or.inl rfl) | exact Or.inr (Or.inr rfl)) (hd : (x == ("__debug__" : Str)) = false := by decide) (hcd : (x == ("__classdict__" : Str)) = false := by decide)
    (h : starEach (.Name x pos :: es) X.env = (false, eval (.Name x pos) X.env) :: starEach es X.env := by rfl) : QM X N s2 (.Name x pos :: es) (.io i :: as) := let ⟨_, p', q'⟩ := hs; ⟨_, pa_cons (pe_var hN hv hd hcd) p' h, rm_io q'⟩
/-! displays, items, slices, attributes -/
theorem q_tup {k : Nat} (h : QA X N st es ms) : QE X N st (.Tuple es k pos) (eTup ms) := let ⟨_, p, q⟩ := h; ⟨_, pe_tup p, re_tup q⟩
theorem q_lst (h : QA X N st es ms) : QE X N st (.List es pos) (eLst ms) := let ⟨_, p, q⟩ := h; ⟨_, pe_lst p, re_lst q⟩
theorem q_ix (ag : Ag X N) (hu : X.A.units + 64 < cLine) (ha : QT X N s1 a m) (hb : QT X N true b n) (hs : PlainIx b := by intro _ _; rfl) : QT X N s1 (.Subscript a b pos) (e2 fIx m n) := let ⟨_, p, q⟩ := ha; let ⟨_, p', q'⟩ := hb; ⟨_, pe_ix (o_ix N.C.K hu ag.K) p p' hs, rt_op f_ix q q'⟩
theorem q_ixk (ag : Ag X N) (hu : X.A.units + 64 < cLine) (ha : QE X N s1 a m) (hb : QT X N s2 b n) (hs : PlainIx b := by intro _ _; rfl) : QT X N (s1 && s2) (.Subscript a b pos) (e2 fIx m n) := let ⟨_, p, q⟩ := ha; let ⟨_, p', q'⟩ := hb; ⟨_, pe_ix (o_ix N.C.K hu ag.K) p p' hs, rt_opk f_ix q q'⟩
theorem qo_n : QO X N none oN := ⟨_, po_none, ro_n⟩
theorem qo_s (h : QT X N true e m) : QO X N (some e) (oS m) := let ⟨_, p, q⟩ := h; ⟨_, po_some p, ro_s q⟩
variable {lo hi : Option Expr} {ml mh : MO} {p2 : Pos}
theorem q_sl (ag : Ag X N) (ha : QT X N s1 a m) (hl : QO X N lo ml) (hh : QO X N hi mh) : QE X N s1 (.Subscript a (.Slice lo hi none p2) pos) (eSl m ml mh) := let ⟨_, p, q⟩ := ha; let ⟨_, p', q'⟩ := hl; let ⟨_, p3, q3⟩ := hh; ⟨_, pe_slice (o_sl N.C.K ag.K) p p' p3, re_sl q q' q3⟩
theorem q_rev {k : Nat} {p1 p3 : Pos} (ag : Ag X N) (ha : QT X N s1 a m) : QE X N s1 (.Subscript a (.Slice none none (some (.UnaryOp .USub (.Constant (.int 1) k p1) p2)) p3) pos) (e1 fRev m) := by
  obtain ⟨_, p, q⟩ := ha
  have := pe_revL (X := X) (k := k) (p1 := p1) (p2 := p2) (p3 := p3) (pos := pos) p
  rw [ag.K] at this
  exact ⟨_, this, re_rev q⟩
theorem q_fld {cs : List String} {f : String} (ag : Ag X N) (hc : ∀ c ∈ cs, FldOk N.C c f) (ha : QT X N s1 a m) (hb : attributeBase a (PySem.Str.ofString f) X.env (eval a X.env) = eval a X.env := by rfl) : QT X N s1 (.Attribute a (PySem.Str.ofString f) pos) (eFld cs f m) := by
  obtain ⟨_, p, q⟩ := ha
  have := pe_fld (pos := pos) p hb
  rw [ag.K] at this
  exact ⟨_, this, rt_fld hc q⟩
/-! built-ins -/
theorem q_callB {r : List V → Hp → VK → Prop} {f : List D → Option D} {x : Str} {fid : String} {p : Pos} (hc : CallR X (.builtin fid) r) (hf : FnL N.C r f) (hm : X.mg x = none) (hv : bootBuiltins x = some (.builtin fid)) (ha : QTA X N st (e :: es) ms) (hg : Gl X x := by rfl)
    (hn : x ≠ "__name__" := by decide) (hdb : (x == ("__debug__" : Str)) = false := by decide) (he : starEach (e :: es) X.env = (false, eval e X.env) :: starEach es X.env := by rfl) (hpl : (backTo pos (starEach es X.env)).any (·.1) = false := by rfl) : QE X N st (.Call (.Name x p) (e :: es) [] pos) (eL f ms) := by
  obtain ⟨_, p', q⟩ := ha
  exact ⟨_, pe_callB hc hg hm hv p' hn hdb he hpl, re_cb hf q⟩
theorem q_callT {r : List V → Hp → VK → Prop} {f : List D → Option D} {x : Str} {T : String} {p : Pos} (hc : CallR X (.type T) r) (hf : FnL N.C r f) (hm : X.mg x = none) (hv : bootBuiltins x = some (.type T)) (ha : QTA X N st (e :: es) ms) (hg : Gl X x := by rfl)
    (hn : x ≠ "__name__" := by decide) (hdb : (x == ("__debug__" : Str)) = false := by decide) (he : starEach (e :: es) X.env = (false, eval e X.env) :: starEach es X.env := by rfl) (hpl : (backTo pos (starEach es X.env)).any (·.1) = false := by rfl) : QE X N st (.Call (.Name x p) (e :: es) [] pos) (eL f ms) := by
  obtain ⟨_, p', q⟩ := ha
  exact ⟨_, pe_callTy hc hg hm hv p' hn hdb he hpl, re_cb hf q⟩

/-- isinstance(a, T), T a built-in class -/
theorem q_isa {T : String} {f : Kd → Bool} {p p0 : Pos} (ag : Ag X N) (hT : ∀ k : Kd, kitB k.ty T = some (f k)) (hm : X.mg "isinstance" = none) (hmT : X.mg (PySem.Str.ofString T) = none) (hvT : bootBuiltins (PySem.Str.ofString T) = some (.type T)) (ha : QT X N st a m)
    (hg : Gl X "isinstance" := by rfl) (hgT : Gl X (PySem.Str.ofString T) := by rfl) (hnT : PySem.Str.ofString T ≠ "__name__" := by decide) (hdT : (PySem.Str.ofString T == ("__debug__" : Str)) = false := by decide)
    (hs0 : starEach [.Name (PySem.Str.ofString T) p0] X.env = (false, eval (.Name (PySem.Str.ofString T) p0) X.env) :: starEach [] X.env := by rfl)
    (he : starEach [a, .Name (PySem.Str.ofString T) p0] X.env = (false, eval a X.env) :: starEach [.Name (PySem.Str.ofString T) p0] X.env := by rfl) (hpl : (backTo pos (starEach [.Name (PySem.Str.ofString T) p0] X.env)).any (·.1) = false := by rfl) :
    QE X N st (.Call (.Name "isinstance" p) [a, .Name (PySem.Str.ofString T) p0] [] pos) (e1 (fIsa f) m) := by
  obtain ⟨t, p', q⟩ := ha
  have hc : CallR X (.builtin "isinstance") (rIsa X.K T f) := isa_mk hT
  rw [ag.K] at hc
  refine ⟨_, pe_callB hc hg hm (by decide +kernel) (pa_cons p' (pa_cons (pe_bltn (v := .ty T) hgT hmT hvT rfl hnT hdT) pa_nil hs0) he) (by decide) (by decide) he hpl, ?_⟩
  intro env σ Z H F Q o re w
  refine q env σ Z H F _ o re (w.bind.mono (Pin.refl _ _) (Ext.refl o) ?_)
  intro d env1 k v Z1 H1 Fd F1 x rd r1 sm
  obtain ⟨e, he⟩ := wp_lift k
  rw [he] at k
  unfold fIsa at he
  rw [Option.map_eq_some_iff] at he
  obtain ⟨kd, hk, rfl⟩ := he
  exact ⟨v, kd, rfl, rd.kd x.ok hk, k _ Z1 H1 [] F1 x rd_bl r1 sm⟩
/-! range as an argument -/
def eRg1 (m : ME) : Env → R (Int × Int) := fun env => (m env).bind fun d e => match d with | .int n => .ok (0, n) e | _ => .no
def eRg2 (m n : ME) : Env → R (Int × Int) := fun env => (m env).bind fun d e => (n e).bind fun d2 e => match d, d2 with | .int i, .int j => .ok (i, j) e | _, _ => .no
abbrev TRg := L2.St → Hp → (Int → Int → Hp → Prop) → Prop
def RefRg (N : Cn) (st : Bool) (t : TRg) (m : Env → R (Int × Int)) : Prop := ∀ env σ Z H F (Q : Int → Int → Hp → Prop), Ok Z H F → RdE N.C Z H env σ F →
  Wp N σ Z H F (m env) (fun ij env' => ∀ Z' H' F', Ext Z H F Z' H' F' → RdE N.C Z' H' env' σ F' → (st = true → Same H H') → Q ij.1 ij.2 H') → t σ H Q
def QR (X : Cx) (N : Cn) (st : Bool) (e : Expr) (m : Env → R (Int × Int)) : Prop := ∃ t, PRg X e t ∧ RefRg N st t m
theorem q_rg1 {p : Pos} (hm : X.mg "range" = none) (ha : QT X N st a m) (hg : Gl X "range" := by rfl) (na : starEach [a] X.env = (false, eval a X.env) :: starEach [] X.env := by rfl) : QR X N st (.Call (.Name "range" p) [a] [] pos) (eRg1 m) := by
  obtain ⟨t, p', q⟩ := ha
  refine ⟨_, prg_1 hg hm p' na, fun env σ Z H F Q o re w => ?_⟩
  refine q env σ Z H F _ o re (w.bind.mono (Pin.refl _ _) (Ext.refl o) ?_)
  intro d env1 k v Z1 H1 Fd F1 x rd r1 sm
  cases d with
  | int i => exact ⟨i, rd.intI, k Z1 H1 F1 x r1 sm⟩
  | _ => exact k.elim
theorem q_rg2 {p : Pos} (hm : X.mg "range" = none) (ha : QT X N st a m) (hb : QT X N true b n) (hg : Gl X "range" := by rfl) (na : starEach [a, b] X.env = (false, eval a X.env) :: starEach [b] X.env := by rfl)
    (nb : starEach [b] X.env = (false, eval b X.env) :: starEach [] X.env := by rfl) (hp : (backTo pos (starEach [b] X.env)).any (·.1) = false := by rfl) : QR X N st (.Call (.Name "range" p) [a, b] [] pos) (eRg2 m n) := by
  obtain ⟨t, p', q⟩ := ha
  obtain ⟨u, p2, q2⟩ := hb
  refine ⟨_, prg_2 hg hm p' p2 na nb hp, fun env σ Z H F Q o re w => ?_⟩
  refine q env σ Z H F _ o re (w.bind.mono (Pin.refl _ _) (Ext.refl o) ?_)
  intro d env1 k v Z1 H1 Fd F1 x1 rd r1 sm1
  refine q2 env1 σ Z1 H1 F1 _ x1.ok r1 ((Wp.bind (k.mono (Pin.refl _ _) x1 fun _ _ z => z)).mono (Pin.refl _ _) (Ext.refl x1.ok) ?_)
  intro d2 env2 k2 v2 Z2 H2 Fd2 F2 x2 rd2 r2 sm2
  cases d with
  | int i =>
    cases d2 with
    | int j => exact ⟨i, j, rd.intI, rd2.intI, k2 Z2 H2 F2 (x1.trans x2) r2 fun z => (sm1 z).trans (sm2 rfl)⟩
    | _ => exact k2.elim
  | _ => exact k2.elim
def rgL (i j : Int) : List D := (List.range (j - i).toNat).map fun k : Nat => .int (i + (k : Int))
def rgOk (i j : Int) : Bool := decide (-(2 ^ 62) ≤ i ∧ i < 2 ^ 62 ∧ -(2 ^ 62) ≤ j ∧ j < 2 ^ 62 ∧ (j - i).toNat ≤ 2 ^ 24)
def eLRg (g : Env → R (Int × Int)) : ME := fun env => (g env).bind fun ij e => if rgOk ij.1 ij.2 then .ok (.lst true (rgL ij.1 ij.2)) e else .no
def eTRg (g : Env → R (Int × Int)) : ME := fun env => (g env).bind fun ij e => if rgOk ij.1 ij.2 then .ok (.tup (rgL ij.1 ij.2)) e else .no
theorem rd_rg {C : Ct} {Z H : Hp} {i j : Int} : RdL C Z H (rgL i j) (rgV i j) [] := by
  unfold rgL rgV
  generalize List.range (j - i).toNat = l
  induction l with
  | nil => exact RdL.nil0
  | cons k r ih => exact RdL.cons0 rd_int ih
variable {g : Env → R (Int × Int)}
theorem q_lrg {p : Pos} (hm : X.mg "list" = none) (ha : QR X N st e g) (hc : X.calm = true := by rfl) (hg : Gl X "list" := by rfl) (na : starEach [e] X.env = (false, eval e X.env) :: starEach [] X.env := by rfl) : QE X N st (.Call (.Name "list" p) [e] [] pos) (eLRg g) := by
  obtain ⟨t, p', q⟩ := ha
  refine ⟨_, pe_listRg hc hg hm p' na, fun env σ Z H F Q o re w => ?_⟩
  refine q env σ Z H F _ o re (w.bind.mono (Pin.refl _ _) (Ext.refl o) ?_)
  intro ij env1 k Z1 H1 F1 x r1 sm
  split at k
  case isFalse => exact k.elim
  rename_i hz
  refine ⟨by simpa [rgOk, RgOk] using hz, fun l hl => ?_⟩
  have y := Ext.new (o := .lst (rgV ij.1 ij.2)) x.ok hl
  refine k (.ref l) Z1 _ [l] F1 (x.trans y) ?_ (r1.same y.zz (same_new hl)) fun z => (sm z).trans (same_new hl)
  rw [RdV]
  exact ⟨l, _, [], rfl, upd_same, rfl, rd_rg⟩
theorem q_trg {p : Pos} (hm : X.mg "tuple" = none) (ha : QR X N st e g) (hc : X.calm = true := by rfl) (hg : Gl X "tuple" := by rfl) (na : starEach [e] X.env = (false, eval e X.env) :: starEach [] X.env := by rfl) : QE X N st (.Call (.Name "tuple" p) [e] [] pos) (eTRg g) := by
  obtain ⟨t, p', q⟩ := ha
  refine ⟨_, pe_tupRg hc hg hm p' na, fun env σ Z H F Q o re w => ?_⟩
  refine q env σ Z H F _ o re (w.bind.mono (Pin.refl _ _) (Ext.refl o) ?_)
  intro ij env1 k Z1 H1 F1 x r1 sm
  split at k
  case isFalse => exact k.elim
  rename_i hz
  refine ⟨by simpa [rgOk, RgOk] using hz, fun l hl => ?_⟩
  have y := Ext.newZ (o := .tup (rgV ij.1 ij.2)) x.ok hl
  refine k (.ref l) _ _ [] F1 (x.trans y) ?_ (r1.same y.zz (same_new hl)) fun z => (sm z).trans (same_new hl)
  rw [RdV]
  exact ⟨rfl, l, _, rfl, sqT_of upd_same, rd_rg⟩
/-! dicts -/
def eDNew : ME := fun env => .ok (.dct true []) env
theorem q_dnew : QE X N true (.Dict [] [] pos) eDNew := by
  refine ⟨_, pe_dnewK, fun env σ Z H F Q o re w => fun p hp => ?_⟩
  have y := Ext.new (o := .dK []) o hp
  refine w (.ref p) Z _ [p] F y ?_ (re.same y.zz (same_new hp)) fun _ => same_new hp
  rw [RdV]
  exact ⟨p, [], [], rfl, upd_same, rfl, by simp [RdK]⟩
/-- d.get(k): looked at -/
def fDGet : D → D → Option D
  | .dct _ kvs, k => match keyD k with | some _ => some ((lookD kvs k).getD .non) | none => none
  | _, _ => none
def isDct : D → Bool
  | .dct _ _ => true
  | _ => false
def eDGet (m n : ME) : ME := fun env => (m env).bind fun d e => if isDct d then (n e).bind fun k e => lift (fDGet d k) e else .no
theorem q_dget (hu : X.A.units + 64 < cLine) (ha : QT X N s1 a m) (hb : QT X N true b n) {cpos : Pos} (hm : M1 X a "get" apos b cpos := by exact ⟨rfl, rfl, rfl, rfl⟩) : QT X N s1 (.Call (.Attribute a "get" apos) [b] [] cpos) (eDGet m n) := by
  obtain ⟨t, p', q⟩ := ha
  obtain ⟨u, p2, q2⟩ := hb
  refine ⟨_, pe_dget1 (by omega) p' p2 hm, fun env σ Z H F Q o re w => ?_⟩
  refine q env σ Z H F _ o re (w.bind.mono (Pin.refl _ _) (Ext.refl o) ?_)
  intro d env1 k v Z1 H1 Fd F1 x1 rd r1 sm1
  split at k
  case isFalse => exact k.elim
  rename_i hd
  cases d with
  | dct ow kvs =>
    have rd0 := rd
    obtain ⟨ad, us, G, rfl, h1, h2⟩ := rd.dctP x1.ok.zh
    refine ⟨ad, rfl, .inl ⟨us, .inl h1⟩, ?_⟩
    refine q2 env1 σ Z1 H1 F1 _ x1.ok r1 ((Wp.bind (k.mono (Pin.refl _ _) x1 fun _ _ z => z)).mono (Pin.refl _ _) (Ext.refl x1.ok) ?_)
    intro d2 env2 k2 v2 Z2 H2 Fd2 F2 x2 rd2 r2 sm2
    obtain ⟨e, he⟩ := wp_lift k2
    rw [he] at k2
    unfold fDGet at he
    cases hk : keyD d2 with
    | none => simp only [hk] at he; cases he
    | some kk =>
    simp only [hk] at he
    cases he
    obtain rfl := kD_key hk
    have ek := rd2.key hk
    subst ek
    have rd1 := rd0.same x2.zz (sm2 rfl)
    obtain ⟨ad', us', G', e0, h1', h2'⟩ := rd1.dctP x2.ok.zh
    cases e0
    have hH := sm2 rfl _ _ h1
    rw [hH] at h1'
    cases h1'
    refine ⟨_, DGet.kd hH, ?_⟩
    rcases h2'.val (k := kk) with ⟨z1, z2⟩ | ⟨xx, yy, F3, z1, z2, z3⟩
    · rw [z1] at k2
      rw [z2]
      exact k2 _ Z2 H2 [] F2 (x1.trans x2) rd_non r2 fun z => (sm1 z).trans (sm2 rfl)
    · rw [z1] at k2
      rw [z2]
      exact k2 _ Z2 H2 F3 F2 (x1.trans x2) z3 r2 fun z => (sm1 z).trans (sm2 rfl)
  | _ => simp [isDct] at hd
end
end Mi

set_option maxHeartbeats 4000000
namespace Mi
open PySem PySem.Spec PyProof.Rows L2 RZ Ov PpSet

section
variable {X : Cx} {N : Cn} {st s1 s2 s3 : Bool} {a b c e o tg : Expr} {es : List Expr} {m n l : ME} {pos apos p : Pos} {ms : ML} {as : List Arg} {mi : MI}
/-! ### what is walked -/
theorem pi_seqU {l : Expr} {tl : TE} (hl : PE X l tl) : PI X tg l (iSeqU X.K tl) := by
  refine ⟨fun pins s σ H R I h => thn (hl.run pins s σ H _ I h) fun v sA ⟨x, HA, IA, rA, ad, eq, q⟩ => ?_⟩
  subst eq
  cases rA
  have fp : ∀ b ∈ [sA.heap.objs.size], FpOk X pins HA b := fun b hb => by
    obtain rfl : b = sA.heap.objs.size := by simpa using hb
    exact IA.fpOk (Nat.le_refl _) (IA.hok.fresh (Nat.le_refl _))
  rcases q with ⟨⟨xs, hx⟩, q⟩ | ⟨⟨xs, hx⟩, q⟩
  · obtain ⟨its, rv, pl, hz⟩ := IA.list hx
    exact wpAny_pyIter_list pl.isList ⟨sA.heap.objs.size, [sA.heap.objs.size], _, _, HA, rfl, IA.kept (t' := sA.toks) fun b o e => Heap.get?_push_of_some _ e, turn_list ad _, ⟨_, Heap.get?_push_size _ rfl, rfl, rfl⟩, fp, q⟩
  · obtain ⟨its, rv, pl, hz⟩ := IA.tuple hx
    exact wpAny_pyIter_tuple (show sA.heap.IsTuple ad its.toArray from pl) ⟨sA.heap.objs.size, [sA.heap.objs.size], _, _, HA, rfl, IA.kept (t' := sA.toks) fun b o e => Heap.get?_push_of_some _ e, turn_tuple ad _, ⟨_, Heap.get?_push_size _ rfl, rfl, rfl⟩, fp, q⟩
theorem qi_seq (ag : Ag X N) (h : QE X N st e m) : QI X N tg e (iSeq m) := by
  obtain ⟨t, p', q⟩ := h
  have := pi_seqU (tg := tg) p'
  rw [ag.K] at this
  exact ⟨_, this, ri_seq q⟩
theorem qi_str (h : QT X N st e m) : QI X N tg e (iStrD m) := let ⟨_, p', q⟩ := h; ⟨_, pi_str p', ri_str q⟩
theorem qi_rng1 (hm : X.mg "range" = none) (ha : QTA X N st [a] ms) (hg : Gl X "range" := by rfl) (hs : starEach [a] X.env = [(false, eval a X.env)] := by rfl) : QI X N tg (.Call (.Name "range" p) [a] [] pos) (iOf rng1 ms) := let ⟨_, p', q⟩ := ha; ⟨_, pi_range1 hg hm p' hs, ri_rng1 q⟩
theorem qi_rng2 (hm : X.mg "range" = none) (ha : QTA X N st [a, b] ms) (hg : Gl X "range" := by rfl) (hs : starEach [a, b] X.env = [(false, eval a X.env), (false, eval b X.env)] := by rfl) (hs2 : starEach [b] X.env = [(false, eval b X.env)] := by rfl) : QI X N tg (.Call (.Name "range" p) [a, b] [] pos) (iOf rng2 ms) := let ⟨_, p', q⟩ := ha; ⟨_, pi_range2 hg hm p' hs hs2, ri_rng2 q⟩
theorem qi_rng3 (hm : X.mg "range" = none) (ha : QTA X N st [a, b, c] ms) (hg : Gl X "range" := by rfl) (hs : starEach [a, b, c] X.env = (false, eval a X.env) :: starEach [b, c] X.env := by rfl) (hpl : (backTo pos (starEach [b, c] X.env)).any (·.1) = false := by rfl) : QI X N tg (.Call (.Name "range" p) [a, b, c] [] pos) (iOf rng3 ms) := let ⟨_, p', q⟩ := ha; ⟨_, pi_range3 hg hm p' hs hpl, ri_rng3 q⟩
variable {elts : List Expr} {kk : Nat} {tpos : Pos}
theorem qi_zip (ag : Ag X N) (hm : X.mg "zip" = none) (ha : QTA X N st [a, b] ms) (hg : Gl X "zip" := by rfl)
    (hs : starEach [a, b] X.env = (false, eval a X.env) :: starEach [b] X.env := by rfl) (hpl : (backTo pos (starEach [b] X.env)).any (·.1) = false := by rfl) : QI X N (.Tuple elts kk tpos) (.Call (.Name "zip" p) [a, b] [] pos) (iOf zipD ms) := by
  obtain ⟨_, p', q⟩ := ha
  have := pi_zipA (X := X) (p := p) (pos := pos) (tpos := tpos) (elts := elts) (kk := kk) hg hm p' hs hpl
  rw [ag.K] at this
  exact ⟨_, this, ri_zip q⟩
theorem qi_enum (ag : Ag X N) (hm : X.mg "enumerate" = none) (ha : QTA X N st [a] ms) (hg : Gl X "enumerate" := by rfl) (hs : starEach [a] X.env = [(false, eval a X.env)] := by rfl) : QI X N (.Tuple elts kk tpos) (.Call (.Name "enumerate" p) [a] [] pos) (iOf enumD ms) := by
  obtain ⟨_, p', q⟩ := ha
  have := pi_enum (X := X) (p := p) (pos := pos) (tpos := tpos) (elts := elts) (kk := kk) hg hm p' hs
  rw [ag.K] at this
  exact ⟨_, this, ri_enum q⟩
/-! ### targets -/
variable {mg : MG} {ws ws2 : List Nat} {mgs : MGs} {k : Nat}
theorem qg_n (i : Nat) {x : Str} (hN : X.N.Nodup) (hi : X.N[i]? = some x := by rfl) (hx : Loc X.env.scope x := by first | exact Or.inl rfl | exact Or.inr rfl) (hf : X.fn x = true ∨ X.env.scope.names.lookup x = some .local := by first | exact .inl rfl | exact .inr rfl) : QG X N [i] (.Name x pos) (gN i) := ⟨_, pg_name hN hi hx hf, rg_n⟩
theorem qgs_nil : QGs X N [] 0 [] gsNil := ⟨_, pgs_nil, rgs_nil⟩
theorem qgs_cons {nn : Nat} (h : QG X N ws e mg) (hs : QGs X N ws2 nn es mgs) (ha : (assignEach (e :: es) X.env).map (·.2) = assign e X.env :: (assignEach es X.env).map (·.2) := by rfl) : QGs X N (ws ++ ws2) (nn + 1) (e :: es) (gsCons mg mgs) := let ⟨_, p', q⟩ := h; let ⟨_, p2, q2⟩ := hs; ⟨_, pgs_cons p' p2 ha, rgs_cons q q2⟩
theorem qg_t {nn : Nat} (ag : Ag X N) (h : QGs X N ws nn es mgs) (hc : X.calm = true := by rfl) (hn : (assignEach es X.env).length = nn := by rfl) (hst : (assignEach es X.env).findIdx? (·.1) = none := by rfl) : QG X N ws (.Tuple es k pos) (gT mgs) := by
  obtain ⟨_, p', q⟩ := h
  have := pg_tup (X := X) (pos := pos) (k := k) hc p' hn hst
  rw [ag.K] at this
  exact ⟨_, this, rg_t q⟩
/-! ### comprehensions -/
theorem Ag.blk {sh : Shared} {Hh : Hp} {scope : Scope} {env : PySem.Env} {fp : List Addr} (ag : Ag X N) : Ag (X.blk sh Hh scope env fp) N.calm := ⟨ag.K, ag.P, ag.w⟩
def QTs (X : Cx) (N : Cn) (st : Bool) (ifs : List Expr) (m : MB) : Prop := ∃ t, PTs X ifs t ∧ RefB N st t m
theorem qts_nil : QTs X N true [] bYes := ⟨_, pts_nil, rb_yes⟩
theorem qts_one {x : MB} (h : QB X N st c x) : QTs X N st [c] x := let ⟨_, p', q⟩ := h; ⟨_, pts_one p', q⟩
variable {ifs : List Expr} {scope : Scope} {own : List (Str × Nat)} {mc : MB} {tgt iter elt : Expr}
/-- the reading that a mirror gives -/
def tOfE (N : Cn) (st : Bool) (m : ME) : TE := fun σ H Q => ∃ env Z F, Ok Z H F ∧ RdE N.C Z H env σ F ∧
  Wp N σ Z H F (m env) (fun d env' => ∀ v Z' H' Fv F', Ext Z H F Z' H' (Fv ++ F') → RdV N.C Z' H' d v Fv → RdE N.C Z' H' env' σ F' → (st = true → Same H H') → Q v H')
theorem tofE : RefE N st (tOfE N st m) m := fun env σ Z H F Q o r w => ⟨env, Z, F, o, r, w⟩
theorem QE.can (h : QE X N st e m) : PE X e (tOfE N st m) := by
  obtain ⟨t, p', q⟩ := h
  exact ⟨fun pins s σ H Q I ⟨env, Z, F, ok, r, w⟩ => p'.run pins s σ H Q I (q env σ Z H F Q ok r w)⟩
def tOfB (N : Cn) (st : Bool) (m : MB) : TT := fun σ H Q => ∃ env Z F, Ok Z H F ∧ RdE N.C Z H env σ F ∧
  Wp N σ Z H F (m env) (fun b env' => ∀ Z' H' F', Ext Z H F Z' H' F' → RdE N.C Z' H' env' σ F' → (st = true → Same H H') → Q b H')
theorem tofB {x : MB} : RefB N st (tOfB N st x) x := fun env σ Z H F Q o r w => ⟨env, Z, F, o, r, w⟩
theorem QTs.can {x : MB} (h : QTs X N st ifs x) : PTs X ifs (tOfB N st x) := by
  obtain ⟨t, p', q⟩ := h
  exact ⟨fun pins s σ H Q I ⟨env, Z, F, ok, r, w⟩ => p'.run pins s σ H Q I (q env σ Z H F Q ok r w)⟩
def tOfG (N : Cn) (ws : List Nat) (m : MG) : TG := fun v σ H Q => ∃ env Z F Fv d env', Ok Z H (Fv ++ F) ∧ RdE N.C Z H env σ F ∧ RdV N.C Z H d v Fv ∧ m d env = some env' ∧
  (∀ σ' F', F'.Nodup → (∀ a ∈ F', a ∈ Fv ++ F) → (σ'.length = σ.length ∧ ∀ i, i ∉ ws → σ'[i]? = σ[i]?) → RdE N.C Z H env' σ' F' → Q σ' H)
theorem tofG : RefG N ws (tOfG N ws mg) mg := fun env σ Z H F Fv d v Q env' o r rv e k => ⟨env, Z, F, Fv, d, env', o, r, rv, e, k⟩
theorem QG.can (h : QG X N ws e mg) : PG X e (tOfG N ws mg) := by
  obtain ⟨t, p', q⟩ := h
  exact ⟨fun pins s σ H v u Q I rv0 ⟨env, Z, F, Fv, d, env', ok, r, rv, em, w⟩ => p'.run pins s σ H v u Q I rv0 (q env σ Z H F Fv d v Q env' ok r rv em w)⟩
/-- the own names of a block, in order -/
theorem q_lc (hN : X.N.Nodup) (hi : QI X N tgt iter mi) (ok : BlkOk X.N X.env.scope scope own)
    (hg : ∀ (sh : Shared) (Hh : Hp) (A0 : Addr) (cl : List (Str × Addr)) (fp : List Addr), QG (X.blk sh Hh scope (compEnvC scope cl A0 X.env) fp) N.calm (own.map (·.2)) tgt mg)
    (ht : ∀ (sh : Shared) (Hh : Hp) (A0 : Addr) (cl : List (Str × Addr)) (fp : List Addr), QTs (X.blk sh Hh scope (compEnvC scope cl A0 X.env) fp) N.calm s1 ifs mc)
    (he : ∀ (sh : Shared) (Hh : Hp) (A0 : Addr) (cl : List (Str × Addr)) (fp : List Addr), QE (X.blk sh Hh scope (compEnvC scope cl A0 X.env) fp) N.calm s2 elt m)
    (hc : X.calm = true := by rfl) (hs : ∀ x, foldedSetIterable iter X.env x = pure x := by intro _; rfl) :
    QE X N false (.ListComp elt [⟨tgt, iter, ifs, 0⟩] scope pos) (eLc mi mg mc m (own.map (·.2))) := by
  obtain ⟨wi, p', q⟩ := hi
  exact ⟨_, pe_lc hc hN p' ok (fun a b c d e => (hg a b c d e).can) (fun a b c d e => (ht a b c d e).can) (fun a b c d e => (he a b c d e).can) hs, re_lc q tofG tofB tofE⟩
theorem qs_setLc {i : Nat} {y : Str} {py spos : Pos} (hN : X.N.Nodup) (hi : QI X N tgt iter mi) (ok : BlkOk X.N X.env.scope scope own)
    (hg : ∀ (sh : Shared) (Hh : Hp) (A0 : Addr) (cl : List (Str × Addr)) (fp : List Addr), QG (X.blk sh Hh scope (compEnvC scope cl A0 X.env) fp) N.calm (own.map (·.2)) tgt mg)
    (ht : ∀ (sh : Shared) (Hh : Hp) (A0 : Addr) (cl : List (Str × Addr)) (fp : List Addr), QTs (X.blk sh Hh scope (compEnvC scope cl A0 X.env) fp) N.calm s1 ifs mc)
    (he : ∀ (sh : Shared) (Hh : Hp) (A0 : Addr) (cl : List (Str × Addr)) (fp : List Addr), QE (X.blk sh Hh scope (compEnvC scope cl A0 X.env) fp) N.calm s2 elt m)
    (hsw : swapsWith (.ListComp elt [⟨tgt, iter, ifs, 0⟩] scope pos) (some (.Name y py)) spos.line X.env = pure true) (hpin : gOk [i] N.pin = true := by rfl)
    (hy : X.N[i]? = some y := by rfl) (hyl : X.env.scope.names.lookup y = some .local := by rfl) (hc : X.calm = true := by rfl) (hs : ∀ x, foldedSetIterable iter X.env x = pure x := by intro _; rfl) :
    QS X N (.Assign [.Name y py] (.ListComp elt [⟨tgt, iter, ifs, 0⟩] scope pos) spos) (sAsg (gN i) (eLc mi mg mc m (own.map (·.2)))) := by
  obtain ⟨wi, p', q⟩ := hi
  exact ⟨_, ps_setLc hc hN hy hyl hsw p' ok (fun a b c d e => (hg a b c d e).can) (fun a b c d e => (ht a b c d e).can) (fun a b c d e => (he a b c d e).can) hs, rs_asg (re_lc q tofG tofB tofE) rg_n hpin⟩
theorem q_dc {kx vx : Expr} {mk mv : ME} (hN : X.N.Nodup) (hi : QI X N tgt iter mi) (ok : BlkOk X.N X.env.scope scope own)
    (hg : ∀ (sh : Shared) (Hh : Hp) (A0 : Addr) (cl : List (Str × Addr)) (fp : List Addr), QG (X.blk sh Hh scope (compEnvC scope cl A0 X.env) fp) N.calm (own.map (·.2)) tgt mg)
    (ht : ∀ (sh : Shared) (Hh : Hp) (A0 : Addr) (cl : List (Str × Addr)) (fp : List Addr), QTs (X.blk sh Hh scope (compEnvC scope cl A0 X.env) fp) N.calm s1 ifs mc)
    (hk : ∀ (sh : Shared) (Hh : Hp) (A0 : Addr) (cl : List (Str × Addr)) (fp : List Addr), QE (X.blk sh Hh scope (compEnvC scope cl A0 X.env) fp) N.calm s2 kx mk)
    (hv : ∀ (sh : Shared) (Hh : Hp) (A0 : Addr) (cl : List (Str × Addr)) (fp : List Addr), QE (X.blk sh Hh scope (compEnvC scope cl A0 X.env) fp) N.calm s3 vx mv)
    (hc : X.calm = true := by rfl) (hs : ∀ x, foldedSetIterable iter X.env x = pure x := by intro _; rfl) :
    QE X N false (.DictComp kx vx [⟨tgt, iter, ifs, 0⟩] scope pos) (eDc mi mg mc mk mv (own.map (·.2))) := by
  obtain ⟨wi, p', q⟩ := hi
  exact ⟨_, pe_dc hc hN p' ok (fun a b c d e => (hg a b c d e).can) (fun a b c d e => (ht a b c d e).can) (fun a b c d e => (hk a b c d e).can) (fun a b c d e => (hv a b c d e).can) hs, re_dc q tofG tofB tofE tofE⟩
theorem qs_setDc {kx vx : Expr} {mk mv : ME} {i : Nat} {y : Str} {py spos : Pos} (hN : X.N.Nodup) (hi : QI X N tgt iter mi) (ok : BlkOk X.N X.env.scope scope own)
    (hg : ∀ (sh : Shared) (Hh : Hp) (A0 : Addr) (cl : List (Str × Addr)) (fp : List Addr), QG (X.blk sh Hh scope (compEnvC scope cl A0 X.env) fp) N.calm (own.map (·.2)) tgt mg)
    (ht : ∀ (sh : Shared) (Hh : Hp) (A0 : Addr) (cl : List (Str × Addr)) (fp : List Addr), QTs (X.blk sh Hh scope (compEnvC scope cl A0 X.env) fp) N.calm s1 ifs mc)
    (hk : ∀ (sh : Shared) (Hh : Hp) (A0 : Addr) (cl : List (Str × Addr)) (fp : List Addr), QE (X.blk sh Hh scope (compEnvC scope cl A0 X.env) fp) N.calm s2 kx mk)
    (hv : ∀ (sh : Shared) (Hh : Hp) (A0 : Addr) (cl : List (Str × Addr)) (fp : List Addr), QE (X.blk sh Hh scope (compEnvC scope cl A0 X.env) fp) N.calm s3 vx mv)
    (hsw : swapsWith (.DictComp kx vx [⟨tgt, iter, ifs, 0⟩] scope pos) (some (.Name y py)) spos.line X.env = pure true) (hpin : gOk [i] N.pin = true := by rfl)
    (hy : X.N[i]? = some y := by rfl) (hyl : X.env.scope.names.lookup y = some .local := by rfl) (hc : X.calm = true := by rfl) (hs : ∀ x, foldedSetIterable iter X.env x = pure x := by intro _; rfl) :
    QS X N (.Assign [.Name y py] (.DictComp kx vx [⟨tgt, iter, ifs, 0⟩] scope pos) spos) (sAsg (gN i) (eDc mi mg mc mk mv (own.map (·.2)))) := by
  obtain ⟨wi, p', q⟩ := hi
  exact ⟨_, ps_setDc hc hN hy hyl hsw p' ok (fun a b c d e => (hg a b c d e).can) (fun a b c d e => (ht a b c d e).can) (fun a b c d e => (hk a b c d e).can) (fun a b c d e => (hv a b c d e).can) hs, rs_asg (re_dc q tofG tofB tofE tofE) rg_n hpin⟩
theorem q_sc (ag : Ag X N) (hN : X.N.Nodup) (hi : QI X N tgt iter mi) (ok : BlkOk X.N X.env.scope scope own)
    (hg : ∀ (sh : Shared) (Hh : Hp) (A0 : Addr) (cl : List (Str × Addr)) (fp : List Addr), QG (X.blk sh Hh scope (compEnvC scope cl A0 X.env) fp) N.calm (own.map (·.2)) tgt mg)
    (ht : ∀ (sh : Shared) (Hh : Hp) (A0 : Addr) (cl : List (Str × Addr)) (fp : List Addr), QTs (X.blk sh Hh scope (compEnvC scope cl A0 X.env) fp) N.calm s1 ifs mc)
    (he : ∀ (sh : Shared) (Hh : Hp) (A0 : Addr) (cl : List (Str × Addr)) (fp : List Addr), QE (X.blk sh Hh scope (compEnvC scope cl A0 X.env) fp) N.calm s2 elt m)
    (hc : X.calm = true := by rfl) (hs : ∀ x, foldedSetIterable iter X.env x = pure x := by intro _; rfl) :
    QE X N false (.SetComp elt [⟨tgt, iter, ifs, 0⟩] scope pos) (eSc mi mg mc m (own.map (·.2))) := by
  obtain ⟨wi, p', q⟩ := hi
  have := pe_sc2 (pos := pos) hc hN p' ok (fun a b c d e => (hg a b c d e).can) (fun a b c d e => (ht a b c d e).can) (fun a b c d e => (he a b c d e).can) hs
  rw [ag.P, ag.w] at this
  exact ⟨_, this, re_sc q tofG tofB tofE⟩
theorem qs_setSc {i : Nat} {y : Str} {py spos : Pos} (ag : Ag X N) (hN : X.N.Nodup) (hi : QI X N tgt iter mi) (ok : BlkOk X.N X.env.scope scope own)
    (hg : ∀ (sh : Shared) (Hh : Hp) (A0 : Addr) (cl : List (Str × Addr)) (fp : List Addr), QG (X.blk sh Hh scope (compEnvC scope cl A0 X.env) fp) N.calm (own.map (·.2)) tgt mg)
    (ht : ∀ (sh : Shared) (Hh : Hp) (A0 : Addr) (cl : List (Str × Addr)) (fp : List Addr), QTs (X.blk sh Hh scope (compEnvC scope cl A0 X.env) fp) N.calm s1 ifs mc)
    (he : ∀ (sh : Shared) (Hh : Hp) (A0 : Addr) (cl : List (Str × Addr)) (fp : List Addr), QE (X.blk sh Hh scope (compEnvC scope cl A0 X.env) fp) N.calm s2 elt m)
    (hsw : swapsWith (.SetComp elt [⟨tgt, iter, ifs, 0⟩] scope pos) (some (.Name y py)) spos.line X.env = pure true) (hpin : gOk [i] N.pin = true := by rfl)
    (hy : X.N[i]? = some y := by rfl) (hyl : X.env.scope.names.lookup y = some .local := by rfl) (hc : X.calm = true := by rfl) (hs : ∀ x, foldedSetIterable iter X.env x = pure x := by intro _; rfl) :
    QS X N (.Assign [.Name y py] (.SetComp elt [⟨tgt, iter, ifs, 0⟩] scope pos) spos) (sAsg (gN i) (eSc mi mg mc m (own.map (·.2)))) := by
  obtain ⟨wi, p', q⟩ := hi
  have pO := ps_setScG (X := X) (setG_O) hc hN hy hyl hsw p' ok (fun a b c d e => (hg a b c d e).can) (fun a b c d e => (ht a b c d e).can) (fun a b c d e => (he a b c d e).can) hs
  have pK := ps_setScG (X := X) (setG_K) hc hN hy hyl hsw p' ok (fun a b c d e => (hg a b c d e).can) (fun a b c d e => (ht a b c d e).can) (fun a b c d e => (he a b c d e).can) hs
  refine ⟨tAsg (tSc2 X.prog X.w wi (tOfG N.calm (own.map (·.2)) mg) (tOfB N.calm s1 mc) (tOfE N.calm s2 m) (own.map (·.2))) (gName i), ⟨fun pins s σ H D0 I h => ?_⟩, ?_⟩
  · rcases h with h | h
    · exact pO.run pins s σ H D0 I h
    · exact pK.run pins s σ H D0 I h
  · rw [ag.P, ag.w]
    exact rs_asg (re_sc q tofG tofB tofE) rg_n hpin
theorem sw_set {elt : Expr} {gs : List Comprehension} {scope : Scope} {pos py : Pos} {y : Str} {ln : Nat} {env : PySem.Env} (hk : env.scope.kind = .function) (hy : env.scope.names.lookup y = some .local) (hl : (py.line == pos.line) = true)
    (ha : (scope.names.any fun (n, k) => n == y && (k == .local || k == .cell)) = false) : swapsWith (.SetComp elt gs scope pos) (some (.Name y py)) ln env = pure true := by
  have e1 : env.kindOf y = some .local := hy
  have e2 : env.blockKind = .function := by unfold PySem.Env.blockKind; rw [hk]; rfl
  unfold swapsWith
  simp only [e2, e1, ha, Expr.pos, hl]
  rfl
theorem sw_dict {kx vx : Expr} {gs : List Comprehension} {scope : Scope} {pos py : Pos} {y : Str} {ln : Nat} {env : PySem.Env} (hk : env.scope.kind = .function) (hy : env.scope.names.lookup y = some .local) (hl : (py.line == pos.line) = true)
    (ha : (scope.names.any fun (n, k) => n == y && (k == .local || k == .cell)) = false) : swapsWith (.DictComp kx vx gs scope pos) (some (.Name y py)) ln env = pure true := by
  have e1 : env.kindOf y = some .local := hy
  have e2 : env.blockKind = .function := by unfold PySem.Env.blockKind; rw [hk]; rfl
  unfold swapsWith
  simp only [e2, e1, ha, Expr.pos, hl]
  rfl
end
end Mi

set_option maxHeartbeats 4000000
namespace Mi
open PySem PySem.Spec PyProof.Rows L2 RZ Ov PpSet

section
variable {X : Cx} {N : Cn} {st s1 s2 s3 : Bool} {a b c e o tg : Expr} {es : List Expr} {m n l : ME} {pos apos cpos p : Pos} {ms : ML} {as : List Arg} {mi : MI} {mg : MG} {ws : List Nat}
/-! ### places -/
def QP (X : Cx) (N : Cn) (o : Expr) (p : Plc) : Prop := PE X o (tPlc N.C.K p) ∧ PlcOk N.C p
theorem qp_v (i : Nat) {x : Str} (hN : X.N[i]? = some x := by rfl) (hv : Vis X.env.scope x := by first | exact Or.inl rfl | exact Or.inr (Or.inl rfl) | exact Or.inr (Or.inr rfl)) (hd : (x == ("__debug__" : Str)) = false := by decide) (hcd : (x == ("__classdict__" : Str)) = false := by decide) :
    QP X N (.Name x pos) (i, none) := ⟨pe_var hN hv hd hcd, trivial⟩
theorem qp_f (i : Nat) {x : Str} {cs : List String} {f : String} (ag : Ag X N) (hc : ∀ c ∈ cs, FldOk N.C c f) (hb : attributeBase (.Name x p) (PySem.Str.ofString f) X.env (eval (.Name x p) X.env) = eval (.Name x p) X.env := by rfl)
    (hN : X.N[i]? = some x := by rfl) (hv : Vis X.env.scope x := by first | exact Or.inl rfl | exact Or.inr (Or.inl rfl) | exact Or.inr (Or.inr rfl)) (hd : (x == ("__debug__" : Str)) = false := by decide) (hcd : (x == ("__classdict__" : Str)) = false := by decide) :
    QP X N (.Attribute (.Name x p) (PySem.Str.ofString f) pos) (i, some (cs, f)) := by
  have := pe_fld (pos := pos) (pe_var (X := X) (pos := p) hN hv hd hcd) hb
  rw [ag.K] at this
  exact ⟨this, hc⟩
/-! ### methods of lists -/
theorem q_lm {name : Str} {id : String} {r : V → List V → Hp → VK → Prop} {f : List D → List D → Option (D × List D)} {pl : Plc} (ag : Ag X N) (slot : Slot "list" name id) (hty : typeOf (.builtin id) = pure (.type "method_descriptor")) (hm : MtR X id r) (hf : FnM N.C r f) (hp : QP X N o pl) (ha : QA X N st (e :: es) ms) (hs : plcSt pl st = true := by rfl)
    (hbase : attributeBase o name X.env (eval o X.env) = eval o X.env := by rfl)
    (hfew : ((backTo cpos (starEach (e :: es) X.env)).all (fun x => !x.1) && (backToKw cpos (keywordEach [] X.env)).all (fun x => x.1.isSome) &&
      decide ((e :: es).length + ([] : List Keyword).length + (if ([] : List Keyword).isEmpty then 0 else 1) < 30)) = true := by rfl)
    (hline : (apos.endLine == cpos.line) = true := by rfl) (hst : starEach (e :: es) X.env = (false, eval e X.env) :: starEach es X.env := by rfl)
    (hpl : (backTo cpos (starEach es X.env)).any (·.1) = false := by rfl) : QE X N false (.Call (.Attribute o name apos) (e :: es) [] cpos) (mList pl ms f) := by
  obtain ⟨t, p', q⟩ := ha
  have := pe_bm PySem.F.plainAttrs_list slot hty hm hp.1 p' hbase hfew hline hst hpl
  rw [ag.K] at this
  exact ⟨_, this, re_list hf hp.2 q hs⟩
theorem q_lm0 {name : Str} {id : String} {r : V → List V → Hp → VK → Prop} {f : List D → List D → Option (D × List D)} {pl : Plc} (ag : Ag X N) (slot : Slot "list" name id) (hty : typeOf (.builtin id) = pure (.type "method_descriptor")) (hm : MtR X id r) (hf : FnM N.C r f) (hp : QP X N o pl)
    (hbase : attributeBase o name X.env (eval o X.env) = eval o X.env := by rfl) (hline : (apos.endLine == cpos.line) = true := by rfl) : QE X N false (.Call (.Attribute o name apos) [] [] cpos) (mList pl lNil f) := by
  have := pe_bm0 (cpos := cpos) PySem.F.plainAttrs_list slot hty hm hp.1 hbase hline
  rw [ag.K] at this
  exact ⟨_, this, re_list hf hp.2 ra_nil (by simp [plcSt])⟩
/-! ### calls -/
theorem we_none {xc : Bool} {E : XK} (h : N.px = none) : ∀ σ, WE' N xc σ E := fun σ => by unfold WE'; rw [h]; trivial
theorem q_call {k j : Nat} {x : Str} {ps : List Str} {io : List Bool} {f : Fun} {xc : Bool} (cl : Cal X.prog X.w X.K X.mg X.base CX0 k x ps (spM N.C xc io f)) (hr : Rm j X.A) (ha : QM X N st (e :: es) as) (hio : ioOf as = io := by rfl) (hpx : N.px = none := by rfl) (hk : k ≤ j := by decide) (hg : Gl X x := by rfl)
    (hdb : (x == ("__debug__" : Str)) = false := by decide) (he : starEach (e :: es) X.env = (false, eval e X.env) :: starEach es X.env := by rfl) (hpl : (backTo pos (starEach es X.env)).any (·.1) = false := by rfl) :
    QE X N false (.Call (.Name x p) (e :: es) [] pos) (eCall f as) := by
  obtain ⟨t, p', q⟩ := ha
  exact ⟨_, pc cl hr p' hk hg hdb he hpl, re_call q hio (we_none hpx)⟩
theorem q_methI {k j i : Nat} {cn mn : String} {C : Addr} {x : Str} {ps : List Str} {io : List Bool} {f : Fun} {xc : Bool} {pl : Sem Bool} (cl : Met X.prog X.w X.K X.mg X.base CX0 k C (PySem.Str.ofString mn) ps (spM N.C xc io f)) (hr : Rm j X.A) (hC : N.C.cls cn = some C) (hi : QP X N (.Name x p) (i, none)) (ha : QM X N st (e :: es) as) (hio : true :: ioOf as = io := by rfl) (hpx : N.px = none := by rfl) (hk : k ≤ j := by decide)
    (hst : starEach (e :: es) X.env = (false, eval e X.env) :: starEach es X.env := by rfl) (hpl : (backTo pos (starEach es X.env)).any (·.1) = false := by rfl)
    (ht : eval (.Call (.Attribute (.Name x p) (PySem.Str.ofString mn) apos) (e :: es) [] pos) X.env = (do
      let ov ← eval (.Name x p) X.env
      standAt apos.atName
      let (f, first) ← holding [ov] (getMethod ov (PySem.Str.ofString mn) pl)
      callWith pos f first (backTo pos (starEach (e :: es) X.env)) (backToKw pos (keywordEach [] X.env))) := by rfl) :
    QE X N false (.Call (.Attribute (.Name x p) (PySem.Str.ofString mn) apos) (e :: es) [] pos) (eMeth cn mn f (.io i) as) := by
  obtain ⟨t, p', q⟩ := ha
  exact ⟨_, pm cl hr hi.1 p' hk hst hpl ht, re_methI hC q hio (we_none hpx)⟩
theorem q_methI0 {k j i : Nat} {cn mn : String} {C : Addr} {x : Str} {ps : List Str} {io : List Bool} {f : Fun} {xc : Bool} {pl : Sem Bool} (cl : Met X.prog X.w X.K X.mg X.base CX0 k C (PySem.Str.ofString mn) ps (spM N.C xc io f)) (hr : Rm j X.A) (hC : N.C.cls cn = some C) (hi : QP X N (.Name x p) (i, none)) (hio : [true] = io := by rfl) (hpx : N.px = none := by rfl) (hk : k ≤ j := by decide)
    (ht : eval (.Call (.Attribute (.Name x p) (PySem.Str.ofString mn) apos) [] [] pos) X.env = (do
      let ov ← eval (.Name x p) X.env
      standAt apos.atName
      let (f, first) ← holding [ov] (getMethod ov (PySem.Str.ofString mn) pl)
      callWith pos f first (backTo pos (starEach [] X.env)) (backToKw pos (keywordEach [] X.env))) := by rfl) :
    QE X N false (.Call (.Attribute (.Name x p) (PySem.Str.ofString mn) apos) [] [] pos) (eMeth cn mn f (.io i) []) :=
  ⟨_, pm0 cl hr hi.1 hk ht, re_methI hC rm_nil hio (we_none hpx)⟩
theorem q_methE {k j : Nat} {cn mn : String} {C : Addr} {ps : List Str} {io : List Bool} {f : Fun} {xc : Bool} {pl : Sem Bool} (cl : Met X.prog X.w X.K X.mg X.base CX0 k C (PySem.Str.ofString mn) ps (spM N.C xc io f)) (hr : Rm j X.A) (hC : N.C.cls cn = some C) (hi : QE X N s1 o m) (ha : QM X N st (e :: es) as) (hio : false :: ioOf as = io := by rfl) (hpx : N.px = none := by rfl) (hk : k ≤ j := by decide)
    (hst : starEach (e :: es) X.env = (false, eval e X.env) :: starEach es X.env := by rfl) (hpl : (backTo pos (starEach es X.env)).any (·.1) = false := by rfl)
    (ht : eval (.Call (.Attribute o (PySem.Str.ofString mn) apos) (e :: es) [] pos) X.env = (do
      let ov ← eval o X.env
      standAt apos.atName
      let (f, first) ← holding [ov] (getMethod ov (PySem.Str.ofString mn) pl)
      callWith pos f first (backTo pos (starEach (e :: es) X.env)) (backToKw pos (keywordEach [] X.env))) := by rfl) :
    QE X N false (.Call (.Attribute o (PySem.Str.ofString mn) apos) (e :: es) [] pos) (eMeth cn mn f (.e m) as) := by
  obtain ⟨t, p', q⟩ := ha
  obtain ⟨t2, p2, q2⟩ := hi
  exact ⟨_, pm cl hr p2 p' hk hst hpl ht, re_methE hC q2 q hio (we_none hpx)⟩
theorem q_methE0 {k j : Nat} {cn mn : String} {C : Addr} {ps : List Str} {io : List Bool} {f : Fun} {xc : Bool} {pl : Sem Bool} (cl : Met X.prog X.w X.K X.mg X.base CX0 k C (PySem.Str.ofString mn) ps (spM N.C xc io f)) (hr : Rm j X.A) (hC : N.C.cls cn = some C) (hi : QE X N s1 o m) (hio : [false] = io := by rfl) (hpx : N.px = none := by rfl) (hk : k ≤ j := by decide)
    (ht : eval (.Call (.Attribute o (PySem.Str.ofString mn) apos) [] [] pos) X.env = (do
      let ov ← eval o X.env
      standAt apos.atName
      let (f, first) ← holding [ov] (getMethod ov (PySem.Str.ofString mn) pl)
      callWith pos f first (backTo pos (starEach [] X.env)) (backToKw pos (keywordEach [] X.env))) := by rfl) :
    QE X N false (.Call (.Attribute o (PySem.Str.ofString mn) apos) [] [] pos) (eMeth cn mn f (.e m) []) := by
  obtain ⟨t2, p2, q2⟩ := hi
  exact ⟨_, pm0 cl hr p2 hk ht, re_methE hC q2 rm_nil hio (we_none hpx)⟩
theorem q_new {k j : Nat} {cn : String} {C : Addr} {x : Str} {ps : List Str} {io : List Bool} {f : Fun} {xc : Bool} (cl : Mak X.prog X.w X.K X.mg X.base CX0 k x C ps (spM N.C xc io f)) (hr : Rm j X.A) (hC : N.C.cls cn = some C) (ha : QM X N st (e :: es) as) (hio : true :: ioOf as = io := by rfl) (hpx : N.px = none := by rfl) (hk : k + 1 ≤ j := by decide) (hg : Gl X x := by rfl)
    (hdb : (x == ("__debug__" : Str)) = false := by decide) (he : starEach (e :: es) X.env = (false, eval e X.env) :: starEach es X.env := by rfl) (hpl : (backTo pos (starEach es X.env)).any (·.1) = false := by rfl) :
    QE X N false (.Call (.Name x p) (e :: es) [] pos) (eNew cn f as) := by
  obtain ⟨t, p', q⟩ := ha
  exact ⟨_, pmk cl hr p' hk hg hdb he hpl, re_new hC q hio (we_none hpx)⟩
/-! ### statements -/
variable {s : Stmt} {ss sa sb : List Stmt} {mS nS : MS} {mB : MB}
theorem qss_nil : QSs X N [] sPass := ⟨_, pss_nil, rs_pass⟩
theorem qss_one (h : QS X N s mS) : QSs X N [s] mS := let ⟨_, p', q⟩ := h; ⟨_, pss_one p', q⟩
theorem qss_cons (h : QS X N s mS) (hs : QSs X N ss nS) : QSs X N (s :: ss) (sSeq mS nS) := let ⟨_, p', q⟩ := h; let ⟨_, p2, q2⟩ := hs; ⟨_, pss_cons p' p2, rs_seq q q2⟩
theorem qs_pass : QS X N (.Pass pos) sPass := ⟨_, ps_pass, rs_pass⟩
theorem qs_break : QS X N (.Break pos) sBk := ⟨_, ps_break, rs_bk⟩
theorem qs_continue : QS X N (.Continue pos) sCt := ⟨_, ps_continue, rs_ct⟩
theorem qs_never : QS X N s sNo := ⟨tNever, ps_never, rs_never⟩
theorem qs_ret (h : QE X N st e m) : QS X N (.Return (some e) pos) (sRet m) := let ⟨_, p', q⟩ := h; ⟨_, ps_ret p', rs_ret q⟩
theorem qs_retN : QS X N (.Return none pos) sRetN := ⟨_, ps_retN, rs_retN⟩
theorem qs_expr (h : QT X N st e m) (hs : swapsWith e none pos.line X.env = pure false := by rfl) : QS X N (.Expr e pos) (sExpr m) := let ⟨_, p', q⟩ := h; ⟨_, ps_expr p' hs, rs_expr q⟩
theorem qs_if (h : QB X N st c mB) (ha : QSs X N sa mS) (hb : QSs X N sb nS) : QS X N (.If c sa sb pos) (sIf mB mS nS) := let ⟨_, p', q⟩ := h; let ⟨_, p2, q2⟩ := ha; let ⟨_, p3, q3⟩ := hb; ⟨_, ps_if p' p2 p3, rs_if q q2 q3⟩
theorem qs_while (hp : PassesOwn (model X.prog X.w) X.A X.env X.xe) (h : QB X N st c mB) (ha : QSs X N sa mS) : QS X N (.While c sa [] pos) (sWhile mB mS) := let ⟨_, p', q⟩ := h; let ⟨_, p2, q2⟩ := ha; ⟨_, ps_while hp p' p2, rs_while q q2⟩
theorem qs_for {iter : Expr} (hp : PassesOwn (model X.prog X.w) X.A X.env X.xe) (hi : QI X N tg iter mi) (hg : QG X N ws tg mg) (ha : QSs X N sa mS) (hpin : gOk ws N.pin = true := by rfl) (hc : X.calm = true := by rfl) (hs : ∀ x, foldedSetIterable iter X.env x = pure x := by intro _; rfl) : QS X N (.For tg iter sa [] pos) (sFor mi mg mS) := let ⟨_, p', q⟩ := hi; let ⟨_, p2, q2⟩ := hg; let ⟨_, p3, q3⟩ := ha; ⟨_, ps_for hp hc p' p2 p3 hs, rs_for q q2 q3 hpin⟩
theorem qs_asg (he : QE X N st e m) (hg : QG X N ws tg mg) (hpin : gOk ws N.pin = true := by rfl) (hs : swapsWithSole [tg] e pos.line X.env = pure false := by rfl) (hw : swappedStores [tg] e X.env = pure none := by rfl) (h1 : (assignEach [tg] X.env).map (·.2) = [assign tg X.env] := by rfl) : QS X N (.Assign [tg] e pos) (sAsg mg m) := let ⟨_, p', q⟩ := he; let ⟨_, p2, q2⟩ := hg; ⟨_, ps_asg p' p2 hs hw h1, rs_asg q q2 hpin⟩
theorem qs_set {i : Nat} {x : Str} {pos' : Pos} (he : QE X N st e m) (hN : X.N.Nodup) (hpin : gOk [i] N.pin = true := by rfl) (hi : X.N[i]? = some x := by rfl) (hx : Loc X.env.scope x := by first | exact Or.inl rfl | exact Or.inr rfl) (hs : swapsWith e (some (.Name x pos')) pos.line X.env = pure false := by rfl) (hf : X.fn x = true ∨ X.env.scope.names.lookup x = some .local := by first | exact .inl rfl | exact .inr rfl) :
    QS X N (.Assign [.Name x pos'] e pos) (sAsg (gN i) m) := let ⟨_, p', q⟩ := he; ⟨_, ps_set hN hi hx p' hs hf, rs_asg q rg_n hpin⟩

theorem qs_par {i j : Nat} {x y : Str} {px py pt pt2 : Pos} {kt k2 : Nat} (ha : QA X N st [a, b] ms) (hN : X.N.Nodup) (hij : i ≠ j := by decide) (hpin : gOk [i, j] N.pin = true := by rfl) (hi : X.N[i]? = some x := by rfl) (hj : X.N[j]? = some y := by rfl)
    (hx : X.env.scope.names.lookup x = some .local := by rfl) (hy : X.env.scope.names.lookup y = some .local := by rfl) (hc : X.calm = true := by rfl)
    (hw : swappedStores [.Tuple [.Name x px, .Name y py] kt pt] (.Tuple [a, b] k2 pt2) X.env = pure (some [x, y]) := by rfl)
    (hs : swapsWithSole [.Tuple [.Name x px, .Name y py] kt pt] (.Tuple [a, b] k2 pt2) pos.line X.env = pure false := by rfl) :
    QS X N (.Assign [.Tuple [.Name x px, .Name y py] kt pt] (.Tuple [a, b] k2 pt2) pos) (sPar i j ms) := let ⟨_, p', q⟩ := ha; ⟨_, ps_par hc hN hi hj hij hx hy p' hw hs, rs_par q hpin⟩
/-! three at once -/
def setsE : Env → List Nat → List D → Env
  | env, i :: is, d :: ds => setsE (env.set i (some d)) is ds
  | env, _, _ => env
def setsV : L2.St → List Nat → List V → L2.St
  | σ, i :: is, v :: vs => setsV (σ.set i (some v)) is vs
  | σ, _, _ => σ
theorem rd_sets {C : Ct} {Z H : Hp} : ∀ {is : List Nat} {ds : List D} {vs : List V} {Fv F : List Addr} {env : Env} {σ : L2.St}, Ok Z H (Fv ++ F) → RdE C Z H env σ F → RdL C Z H ds vs Fv →
    ∃ F', F'.Nodup ∧ (∀ a ∈ F', a ∈ Fv ++ F) ∧ RdE C Z H (setsE env is ds) (setsV σ is vs) F'
  | [], ds, vs, Fv, F, env, σ, o, r, h => ⟨F, nodup_right o.nd, fun a ha => List.mem_append_right _ ha, by cases ds <;> cases vs <;> exact r⟩
  | i :: is, [], vs, Fv, F, env, σ, o, r, h => by
    rw [RdL] at h
    rw [h.1]
    exact ⟨F, nodup_right o.nd, fun a ha => List.mem_append_right _ ha, r⟩
  | i :: is, d :: ds, _, _, F, env, σ, o, r, h => by
    rw [RdL] at h
    obtain ⟨v, vs, F1, F2, rfl, rfl, h1, h2⟩ := h
    have nd := o.nd
    rw [List.append_assoc] at nd
    have o1 : Ok Z H (F1 ++ F) := o.sub (List.nodup_append.mpr ⟨nodup_left nd, nodup_right (nodup_right nd), fun a ha b hb e => by
      subst e
      exact (List.nodup_append.mp nd).2.2 a ha a (List.mem_append_right _ hb) rfl⟩) fun a ha => by
        rcases List.mem_append.mp ha with z | z
        · exact List.mem_append_left _ (List.mem_append_left _ z)
        · exact List.mem_append_right _ z
    obtain ⟨F3, g1, g2, g3⟩ := rd_set (i := i) o1 r h1
    have o2 : Ok Z H (F2 ++ F3) := o.sub (List.nodup_append.mpr ⟨nodup_left (nodup_right nd), g1, fun a ha b hb e => by
      subst e
      rcases List.mem_append.mp (g2 a hb) with z | z
      · exact (List.nodup_append.mp nd).2.2 a z a (List.mem_append_left _ ha) rfl
      · exact (List.nodup_append.mp (nodup_right nd)).2.2 a ha a z rfl⟩) fun a ha => by
        rcases List.mem_append.mp ha with z | z
        · exact List.mem_append_left _ (List.mem_append_right _ z)
        · rcases List.mem_append.mp (g2 a z) with y | y
          · exact List.mem_append_left _ (List.mem_append_left _ y)
          · exact List.mem_append_right _ y
    obtain ⟨F4, k1, k2, k3⟩ := rd_sets (is := is) o2 g3 h2
    refine ⟨F4, k1, fun a ha => ?_, k3⟩
    rcases List.mem_append.mp (k2 a ha) with z | z
    · exact List.mem_append_left _ (List.mem_append_right _ z)
    · rcases List.mem_append.mp (g2 a z) with y | y
      · exact List.mem_append_left _ (List.mem_append_left _ y)
      · exact List.mem_append_right _ y
def sPar3 (i j l : Nat) (m : ML) : MS := fun env => (m env).bind fun ds e => match ds with | [d1, d2, d3] => .ok .nx (((e.set i (some d1)).set j (some d2)).set l (some d3)) | _ => .no
theorem rs_par3 {i j l : Nat} {t : TA} {m : ML} (h : RefA N st t m) (hp : gOk [i, j, l] N.pin = true) : RefS N (tPar3 i j l t) (sPar3 i j l m) := fun env σ Z H F D0 o r w => by
  refine h env σ Z H F _ o r (w.bind.mono (Pin.refl _ _) (Ext.refl o) ?_)
  intro ds env1 k vs Z1 H1 Fv F1 x rv r1 _
  match ds, rv, k with
  | [], _, k => exact k.elim
  | [_], _, k => exact k.elim
  | [_, _], _, k => exact k.elim
  | _ :: _ :: _ :: _ :: _, _, k => exact k.elim
  | [d1, d2, d3], rv, k =>
    have hl : vs.length = 3 := by rw [← rv.length]; rfl
    match vs, hl, rv with
    | [v1, v2, v3], _, rv =>
      refine ⟨v1, v2, v3, rfl, ?_⟩
      obtain ⟨F2, h1, h2, h3⟩ := rd_sets (is := [i, j, l]) x.ok r1 rv
      refine k _ Z1 H1 F2 ⟨by simp, fun q hq => ?_⟩ (x.sub h1 h2) h3
      have := List.all_eq_true.mp hp q hq
      simp only [List.contains_cons, List.contains_nil, Bool.or_false, Bool.not_eq_true', Bool.or_eq_false_iff, beq_eq_false_iff_ne] at this
      rw [List.getElem?_set_ne (Ne.symm this.2.2), List.getElem?_set_ne (Ne.symm this.2.1), List.getElem?_set_ne (Ne.symm this.1)]
theorem qs_par3 {i j l : Nat} {x y z : Str} {px py pz pt pt2 : Pos} {kt k2 : Nat} (ha : QA X N st [a, b, c] ms) (hN : X.N.Nodup) (hij : i ≠ j := by decide) (hil : i ≠ l := by decide) (hjl : j ≠ l := by decide) (hpin : gOk [i, j, l] N.pin = true := by rfl) (hi : X.N[i]? = some x := by rfl) (hj : X.N[j]? = some y := by rfl) (hl : X.N[l]? = some z := by rfl)
    (hx : X.env.scope.names.lookup x = some .local := by rfl) (hy : X.env.scope.names.lookup y = some .local := by rfl) (hz : X.env.scope.names.lookup z = some .local := by rfl) (hc : X.calm = true := by rfl)
    (hw : swappedStores [.Tuple [.Name x px, .Name y py, .Name z pz] kt pt] (.Tuple [a, b, c] k2 pt2) X.env = pure (some [x, y, z]) := by rfl)
    (hs : swapsWithSole [.Tuple [.Name x px, .Name y py, .Name z pz] kt pt] (.Tuple [a, b, c] k2 pt2) pos.line X.env = pure false := by rfl) :
    QS X N (.Assign [.Tuple [.Name x px, .Name y py, .Name z pz] kt pt] (.Tuple [a, b, c] k2 pt2) pos) (sPar3 i j l ms) := let ⟨_, p', q⟩ := ha; ⟨_, ps_par3 hc hN hi hj hl hij hil hjl hx hy hz p' hw hs, rs_par3 q hpin⟩
/-! x op= e, on ints -/
theorem qs_aug {op : Operator} {r : R2} {g : Int → Int → Option D} {i : Nat} {x : Str} {pos' : Pos} (ho : OpR X (inplaceOp op) r) (hf : ∀ a b e Q H, g a b = some e → (∀ v, (∀ Z H, RdV N.C Z H e v []) → Q v H) → r (.int a) (.int b) H Q) (he : QE X N st e m) (hN : X.N.Nodup)
    (hpin : gOk [i] N.pin = true := by rfl) (hi : X.N[i]? = some x := by rfl) (hx : Loc X.env.scope x := by first | exact Or.inl rfl | exact Or.inr rfl) (hfn : X.fn x = true ∨ X.env.scope.names.lookup x = some .local := by first | exact .inl rfl | exact .inr rfl) :
    QS X N (.AugAssign (.Name x pos') op e pos) (sAug i (fI2 g) m) := by
  obtain ⟨t, p', q⟩ := he
  refine ⟨_, ps_aug hN hi hx p' ho hfn, rs_aug q ?_ ?_ hpin⟩
  · intro d v d' v' H Z Fd Fd' Q e rd rd' hfd k
    unfold fI2 at hfd
    split at hfd
    · rw [rd.intI, rd'.intI]
      exact hf _ _ e Q H hfd k
    · cases hfd
  · intro d d' e hfd
    unfold fI2 at hfd
    split at hfd
    · rfl
    · cases hfd
def gAdd (a b : Int) : Option D := some (.int (a + b))
def gSub (a b : Int) : Option D := some (.int (a - b))
def gMul (a b : Int) : Option D := if (-(2 ^ 64) < a ∧ a < 2 ^ 64) ∨ (-(2 ^ 64) < b ∧ b < 2 ^ 64) then some (.int (a * b)) else none
def gDiv (a b : Int) : Option D := if 0 < b ∧ b.natAbs.log2 < 9000 then some (.int (a / b)) else none
theorem i_add {C : Ct} : ∀ a b e Q H, gAdd a b = some e → (∀ v, (∀ Z H, RdV C Z H e v []) → Q v H) → (rI0 fun i j => .int (i + j)) (.int a) (.int b) H Q := fun a b e Q H h k => by cases h; exact ⟨a, b, rfl, rfl, k _ fun _ _ => rd_int⟩
theorem i_sub {C : Ct} : ∀ a b e Q H, Mi.gSub a b = some e → (∀ v, (∀ Z H, RdV C Z H e v []) → Q v H) → (rI0 fun i j => .int (i - j)) (.int a) (.int b) H Q := fun a b e Q H h k => by cases h; exact ⟨a, b, rfl, rfl, k _ fun _ _ => rd_int⟩
theorem i_mul {C : Ct} : ∀ a b e Q H, gMul a b = some e → (∀ v, (∀ Z H, RdV C Z H e v []) → Q v H) → (rI CMul fun i j => .int (i * j)) (.int a) (.int b) H Q := fun a b e Q H h k => by
  unfold gMul at h
  split at h
  · cases h; exact ⟨a, b, rfl, rfl, ‹_›, k _ fun _ _ => rd_int⟩
  · cases h
theorem i_div {C : Ct} : ∀ a b e Q H, gDiv a b = some e → (∀ v, (∀ Z H, RdV C Z H e v []) → Q v H) → (rI CDivW fun i j => .int (i / j)) (.int a) (.int b) H Q := fun a b e Q H h k => by
  unfold gDiv at h
  split at h
  · cases h; exact ⟨a, b, rfl, rfl, ‹_›, k _ fun _ _ => rd_int⟩
  · cases h
theorem qs_put {pl : Plc} {pos' : Pos} (hu : X.A.units + 64 < cLine) (he : QE X N s1 e m) (hp : QP X N o pl) (hi : QT X N s2 b n) (hst : plcSt pl s2 = true := by rfl) (hs : swapsWithSole [.Subscript o b pos'] e pos.line X.env = pure false := by rfl) (hw : swappedStores [.Subscript o b pos'] e X.env = pure none := by rfl) (h1 : (assignEach [.Subscript o b pos'] X.env).map (·.2) = [assign (.Subscript o b pos') X.env] := by rfl)
    (ha : ∀ v, assign (.Subscript o b pos') X.env v = (do
      let ov ← holding [v] (eval o X.env)
      let iv ← holding [v, ov] (eval b X.env)
      standAt pos'
      holding [v, ov, iv] (setItem ov iv v)
      release [v, ov, iv] []) := by intro _; rfl) :
    QS X N (.Assign [.Subscript o b pos'] e pos) (sPut pl m n) := by
  obtain ⟨t, p', q⟩ := he
  obtain ⟨t2, p2, q2⟩ := hi
  exact ⟨_, ps_asg p' (pg_sub hp.1 p2 (o_set hu) ha) hs hw h1, rs_put hp.2 q q2 hst⟩
theorem qs_fld {i : Nat} {cs : List String} {f : String} {x : Str} {pos' : Pos} (ag : Ag X N) (hc : ∀ c ∈ cs, FldOk N.C c f) (he : QE X N s1 e m) (hs : swapsWith e (some (.Attribute (.Name x p) (PySem.Str.ofString f) pos')) pos.line X.env = pure false := by rfl)
    (hN : X.N[i]? = some x := by rfl) (hv : Vis X.env.scope x := by first | exact Or.inl rfl | exact Or.inr (Or.inl rfl) | exact Or.inr (Or.inr rfl)) (hd : (x == ("__debug__" : Str)) = false := by decide) (hcd : (x == ("__classdict__" : Str)) = false := by decide) :
    QS X N (.Assign [.Attribute (.Name x p) (PySem.Str.ofString f) pos'] e pos) (sFldD i cs f m) := by
  obtain ⟨t, p', q⟩ := he
  have := ps_fld (pos := pos) (pos' := pos') (f := PySem.Str.ofString f) (pe_var (X := X) (pos := p) hN hv hd hcd) p' hs
  rw [ag.K] at this
  exact ⟨_, this, rs_fld hc q⟩
end
/-! ### defs -/
theorem spM_len {C : Ct} {xc : Bool} {io : List Bool} {f : Fun} {n : Nat} (h : io.length = n) : ∀ vs H Q E, spM C xc io f vs H Q E → vs.length = n := fun vs H Q E ⟨_, _, _, h1, _⟩ => h1.trans h
section
variable {P : Program} {w : World} {K : PySem.W.Frag} {mg : Str → Option Value} {base : Heap} {k : Nat} {Ns ps : List Str} {stm : Stmt} {f : Addr} {fd : FuncData} {io : List Bool} {cls : String → Option Addr} {m : MS} {n : Nat}
/-- the body of a def, against its mirror -/
def QBody (P : Program) (w : World) (K : PySem.W.Frag) (mg : Str → Option Value) (base : Heap) (cls : String → Option Addr) (k : Nat) (qual : Str) (stm : Stmt) (f : Addr) (Ns : List Str) (io : List Bool) (m : MS) : Prop :=
  ∀ (cdv : Value) (A : Around) (outer : List PySem.Env) (s : Shared) (H : Hp) (E : XK), Rm k (A.deeper (envOfC qual (defScope stm) s.heap.objs.size f cdv)) →
    QSs (cxOf CX0 P w K mg base Ns qual (defScope stm) f cdv A outer s H E).nox ⟨⟨K, cls, P, w⟩, none, pinOf io 0⟩ (defBody stm) m
theorem cal_M {x : Str} (F : At K mg x stm f fd) (b : Binds K fd ps []) (S : FnScope Ns ps (defScope stm)) (hio : io.length = ps.length) (hn : Ns.length = io.length + n) (h : QBody P w K mg base cls k x stm f Ns io m) :
    Cal P w K mg base CX0 (k + 1) x ps (spM ⟨K, cls, P, w⟩ false io (fnOf n io m)) :=
  cal_mk F b S (spM_len hio) (body_M hn h)
theorem met_M {C : Addr} {mn qual : Str} (c : Cls K C) (me : Meth K C mn f) (F : L2.Fun K mn qual stm f fd) (b : Binds K fd ps []) (S : FnScope Ns ps (defScope stm)) (hio : io.length = ps.length) (hn : Ns.length = io.length + n) (h : QBody P w K mg base cls k qual stm f Ns io m) :
    Met P w K mg base CX0 (k + 1) C mn ps (spM ⟨K, cls, P, w⟩ false io (fnOf n io m)) :=
  met_mk c me F b S (spM_len hio) (body_M hn h)
theorem mak_M {C : Addr} {x qual : Str} (M : Mk K C f) (hm : mg x = some (.ref C)) (F : L2.Fun K "__init__" qual stm f fd) (b : Binds K fd ps []) (S : FnScope Ns ps (defScope stm)) (hio : io.length = ps.length) (hn : Ns.length = io.length + n) (h : QBody P w K mg base cls k qual stm f Ns io m) :
    Mak P w K mg base CX0 (k + 1) x C ps (spM ⟨K, cls, P, w⟩ false io (fnOf n io m)) :=
  mak_mk M hm F b S (spM_len hio) (body_M hn h)
theorem ok_nil {H : Hp} : Ok H H [] := ⟨Same.refl _, (fun a ha => nomatch ha), List.nodup_nil, (fun a ha => nomatch ha)⟩
/-- the law itself -/
theorem law_M {f0 : Fun} (c : FnG P w K mg base CX0 k f fd ["_law_script"] (spM ⟨K, cls, P, w⟩ false [false] f0)) (h : ∀ ns : List Int, ns.length ≤ 63 → f0 [.scr (ns.map .int)] = .ok (.bl true) []) : FnG P w K mg base CX0 k f fd ["_law_script"] (spLaw K) := by
  refine ⟨fun vs H Q E hs => ?_, fun A outer s H args us vs Q E hr e0 hb rv hs => ?_⟩
  · obtain ⟨a, ns, rfl, _⟩ := hs
    rfl
  · obtain ⟨a, ns, rfl, hO, hS, hl, q⟩ := hs
    refine c.run A outer s H args us [.ref a] Q E hr e0 hb rv ⟨[.scr (ns.map .int)], H, [], rfl, ?_, ok_nil, ?_⟩
    · refine RdL.cons0 ?_ RdL.nil0
      rw [RdV]
      exact ⟨rfl, a, _, rfl, hS, RdL.ofInts⟩
    · rw [h ns hl]
      intro v Z' H' Fv Fi x rvv ri
      rw [rvv.blI]
      exact q H'
end
end Mi

set_option maxHeartbeats 4000000
namespace Mi
open PySem PySem.Spec PyProof.Rows L2 RZ Ov PpSet

section
variable {X : Cx} {N : Cn} {st s1 s2 s3 : Bool} {a b c e o tg : Expr} {es : List Expr} {m n l : ME} {pos apos cpos p : Pos} {ms : ML} {as : List Arg}
/-- a name whose value is kept: frozen, if it is not yet -/
def eVk (i : Nat) : ME := fun env => match env[i]? with | some (some d) => if fzn d then .ok d env else .ok (fz d) (env.set i (some (fz d))) | _ => .no
theorem re_vk {i : Nat} : RefE N true (tVar i) (eVk i) := fun env σ Z H F Q o r w => by
  unfold eVk at w
  cases he : env[i]? with
  | none => simp only [he] at w; exact w.elim
  | some y =>
  cases y with
  | none => simp only [he] at w; exact w.elim
  | some d =>
  simp only [he] at w
  by_cases q : fzn d = true
  · rw [if_pos q] at w
    refine re_k (rt_v (i := i)) env σ Z H F Q o r ?_
    unfold eK eV
    simp only [he, R.bind_ok, q, if_true]
    exact w
  · rw [if_neg q] at w
    refine re_vz (i := i) env σ Z H F Q o r ?_
    unfold eVz
    simp only [he]
    exact w
theorem qvk (i : Nat) {x : Str} (hN : X.N[i]? = some x := by rfl) (hv : Vis X.env.scope x := by first | exact Or.inl rfl | exact Or.inr (Or.inl rfl) | exact Or.inr (Or.inr rfl)) (hd : (x == ("__debug__" : Str)) = false := by decide) (hcd : (x == ("__classdict__" : Str)) = false := by decide) :
    QE X N true (.Name x pos) (eVk i) := ⟨_, pe_var hN hv hd hcd, re_vk⟩
def eFk (m : ME) : ME := fun env => (m env).bind fun d e => .ok (if fzn d then d else fz d) e
mutual
theorem fz_same : ∀ d : D, fzn d = true → fz d = d
  | .non, _ => rfl
  | .bl _, _ => rfl
  | .int _, _ => rfl
  | .str _, _ => rfl
  | .tup ds, h => by rw [fz, fz_sameL ds (by simpa [fzn] using h)]
  | .lst o ds, h => by
    simp only [fzn, Bool.and_eq_true, Bool.not_eq_true'] at h
    rw [fz, fz_sameL ds h.2, h.1]
  | .dct o ds, h => by
    simp only [fzn, Bool.and_eq_true, Bool.not_eq_true'] at h
    rw [fz, fz_sameK ds h.2, h.1]
  | .ins o c ds, h => by
    simp only [fzn, Bool.and_eq_true, Bool.not_eq_true'] at h
    rw [fz, fz_sameF ds h.2, h.1]
  | .set xs, _ => rfl
  | .scr ds, h => by rw [fz, fz_sameL ds (by simpa [fzn] using h)]
theorem fz_sameL : ∀ ds : List D, fznL ds = true → fzL ds = ds
  | [], _ => rfl
  | d :: ds, h => by
    simp only [fznL, Bool.and_eq_true] at h
    rw [fzL, fz_same d h.1, fz_sameL ds h.2]
theorem fz_sameK : ∀ ds : List (D × D), fznK ds = true → fzK ds = ds
  | [], _ => rfl
  | (k, d) :: ds, h => by
    simp only [fznK, Bool.and_eq_true] at h
    rw [fzK, fz_same d h.1, fz_sameK ds h.2]
theorem fz_sameF : ∀ ds : List (String × D), fznF ds = true → fzF ds = ds
  | [], _ => rfl
  | (k, d) :: ds, h => by
    simp only [fznF, Bool.and_eq_true] at h
    rw [fzF, fz_same d h.1, fz_sameF ds h.2]
end
theorem fk_fz : eFk m = eFz m := by
  funext env
  unfold eFk eFz
  cases m env with
  | ok d e =>
    simp only [R.bind_ok]
    by_cases q : fzn d = true
    · rw [if_pos q, fz_same d q]
    · rw [if_neg q]
  | ex => rfl
  | no => rfl
theorem QE.fk (h : QE X N st e m) : QE X N st e (eFk m) := by rw [fk_fz]; exact h.fz
/-! ### methods and classes by the class's name -/
def MetX (P : Program) (w : World) (K : PySem.W.Frag) (mg : Str → Option Value) (base : Heap) (cls : String → Option Addr) (k : Nat) (cn mn : String) (ps : List Str) (sp : Sp) : Prop := ∃ C, cls cn = some C ∧ Met P w K mg base CX0 k C (PySem.Str.ofString mn) ps sp
def MakX (P : Program) (w : World) (K : PySem.W.Frag) (mg : Str → Option Value) (base : Heap) (cls : String → Option Addr) (k : Nat) (cn : String) (ps : List Str) (sp : Sp) : Prop := ∃ C, cls cn = some C ∧ Mak P w K mg base CX0 k (PySem.Str.ofString cn) C ps sp
variable {k j i : Nat} {cn mn : String} {x : Str} {ps : List Str} {io : List Bool} {f : Fun} {xc : Bool} {pl : Sem Bool}
theorem x_methI (cl : MetX X.prog X.w X.K X.mg X.base N.C.cls k cn mn ps (spM N.C xc io f)) (hr : Rm j X.A) (hi : QP X N (.Name x p) (i, none)) (ha : QM X N st (e :: es) as) (hio : true :: ioOf as = io := by rfl) (hpx : N.px = none := by rfl) (hk : k ≤ j := by decide)
    (hst : starEach (e :: es) X.env = (false, eval e X.env) :: starEach es X.env := by rfl) (hpl : (backTo pos (starEach es X.env)).any (·.1) = false := by rfl)
    (ht : eval (.Call (.Attribute (.Name x p) (PySem.Str.ofString mn) apos) (e :: es) [] pos) X.env = (do
      let ov ← eval (.Name x p) X.env
      standAt apos.atName
      let (f, first) ← holding [ov] (getMethod ov (PySem.Str.ofString mn) pl)
      callWith pos f first (backTo pos (starEach (e :: es) X.env)) (backToKw pos (keywordEach [] X.env))) := by rfl) :
    QE X N false (.Call (.Attribute (.Name x p) (PySem.Str.ofString mn) apos) (e :: es) [] pos) (eMeth cn mn f (.io i) as) := let ⟨C, hC, c⟩ := cl; q_methI c hr hC hi ha hio hpx hk hst hpl ht
theorem x_methI0 (cl : MetX X.prog X.w X.K X.mg X.base N.C.cls k cn mn ps (spM N.C xc io f)) (hr : Rm j X.A) (hi : QP X N (.Name x p) (i, none)) (hio : [true] = io := by rfl) (hpx : N.px = none := by rfl) (hk : k ≤ j := by decide)
    (ht : eval (.Call (.Attribute (.Name x p) (PySem.Str.ofString mn) apos) [] [] pos) X.env = (do
      let ov ← eval (.Name x p) X.env
      standAt apos.atName
      let (f, first) ← holding [ov] (getMethod ov (PySem.Str.ofString mn) pl)
      callWith pos f first (backTo pos (starEach [] X.env)) (backToKw pos (keywordEach [] X.env))) := by rfl) :
    QE X N false (.Call (.Attribute (.Name x p) (PySem.Str.ofString mn) apos) [] [] pos) (eMeth cn mn f (.io i) []) := let ⟨C, hC, c⟩ := cl; q_methI0 c hr hC hi hio hpx hk ht
theorem x_methE (cl : MetX X.prog X.w X.K X.mg X.base N.C.cls k cn mn ps (spM N.C xc io f)) (hr : Rm j X.A) (hi : QE X N s1 o m) (ha : QM X N st (e :: es) as) (hio : false :: ioOf as = io := by rfl) (hpx : N.px = none := by rfl) (hk : k ≤ j := by decide)
    (hst : starEach (e :: es) X.env = (false, eval e X.env) :: starEach es X.env := by rfl) (hpl : (backTo pos (starEach es X.env)).any (·.1) = false := by rfl)
    (ht : eval (.Call (.Attribute o (PySem.Str.ofString mn) apos) (e :: es) [] pos) X.env = (do
      let ov ← eval o X.env
      standAt apos.atName
      let (f, first) ← holding [ov] (getMethod ov (PySem.Str.ofString mn) pl)
      callWith pos f first (backTo pos (starEach (e :: es) X.env)) (backToKw pos (keywordEach [] X.env))) := by rfl) :
    QE X N false (.Call (.Attribute o (PySem.Str.ofString mn) apos) (e :: es) [] pos) (eMeth cn mn f (.e m) as) := let ⟨C, hC, c⟩ := cl; q_methE c hr hC hi ha hio hpx hk hst hpl ht
theorem x_methE0 (cl : MetX X.prog X.w X.K X.mg X.base N.C.cls k cn mn ps (spM N.C xc io f)) (hr : Rm j X.A) (hi : QE X N s1 o m) (hio : [false] = io := by rfl) (hpx : N.px = none := by rfl) (hk : k ≤ j := by decide)
    (ht : eval (.Call (.Attribute o (PySem.Str.ofString mn) apos) [] [] pos) X.env = (do
      let ov ← eval o X.env
      standAt apos.atName
      let (f, first) ← holding [ov] (getMethod ov (PySem.Str.ofString mn) pl)
      callWith pos f first (backTo pos (starEach [] X.env)) (backToKw pos (keywordEach [] X.env))) := by rfl) :
    QE X N false (.Call (.Attribute o (PySem.Str.ofString mn) apos) [] [] pos) (eMeth cn mn f (.e m) []) := let ⟨C, hC, c⟩ := cl; q_methE0 c hr hC hi hio hpx hk ht
theorem x_new (cl : MakX X.prog X.w X.K X.mg X.base N.C.cls k cn ps (spM N.C xc io f)) (hr : Rm j X.A) (ha : QM X N st (e :: es) as) (hio : true :: ioOf as = io := by rfl) (hpx : N.px = none := by rfl) (hk : k + 1 ≤ j := by decide) (hg : Gl X (PySem.Str.ofString cn) := by rfl)
    (hdb : (PySem.Str.ofString cn == ("__debug__" : Str)) = false := by decide) (he : starEach (e :: es) X.env = (false, eval e X.env) :: starEach es X.env := by rfl) (hpl : (backTo pos (starEach es X.env)).any (·.1) = false := by rfl) :
    QE X N false (.Call (.Name (PySem.Str.ofString cn) p) (e :: es) [] pos) (eNew cn f as) := let ⟨C, hC, c⟩ := cl; q_new c hr hC ha hio hpx hk hg hdb he hpl
end
theorem isa_int_k : ∀ k : Kd, kitB k.ty "int" = some (Kd.isInt k) := fun k => by cases k <;> decide +kernel
theorem isa_bool_k : ∀ k : Kd, kitB k.ty "bool" = some (Kd.isBool k) := fun k => by cases k <;> decide +kernel
theorem isa_str_k : ∀ k : Kd, kitB k.ty "str" = some (Kd.isStr k) := fun k => by cases k <;> decide +kernel
theorem isa_tuple_k : ∀ k : Kd, kitB k.ty "tuple" = some (Kd.isTuple k) := fun k => by cases k <;> decide +kernel
theorem isa_list_k : ∀ k : Kd, kitB k.ty "list" = some (Kd.isList k) := fun k => by cases k <;> decide +kernel
theorem isa_dict_k : ∀ k : Kd, kitB k.ty "dict" = some (Kd.isDict k) := fun k => by cases k <;> decide +kernel
theorem with_ag {X : Cx} {N : Cn} {ss : List Stmt} {m : MS} (ag : Ag X N) (h : Ag X N → QSs X N ss m) : QSs X N ss m := h ag
/-! ### arguments that do not come back -/
def subIo : List Bool → List Bool → List D → List D
  | true :: io, b :: io', d :: ds => if b then d :: subIo io io' ds else subIo io io' ds
  | false :: io, _ :: io', ds => subIo io io' ds
  | _, _, _ => []
/-- io' keeps some of io's -/
def subOk : List Bool → List Bool → Bool
  | [], [] => true
  | a :: r, b :: r' => (a || !b) && subOk r r'
  | _, _ => false
def fDrop (io io' : List Bool) (f : Fun) : Fun := fun ds => match f ds with
  | .ok d ios => .ok d (subIo io io' ios)
  | .ex x ios => .ex x (subIo io io' ios)
  | .no => .no
theorem RdL.subIo {C : Ct} {Z H : Hp} : ∀ {io io' : List Bool} {vs : List V} {ios : List D} {F : List Addr}, subOk io io' = true → RdL C Z H ios (pick io vs) F → vs.length = io.length → ∃ F', F'.Sublist F ∧ RdL C Z H (Mi.subIo io io' ios) (pick io' vs) F'
  | [], [], vs, ios, F, h, r, l => by
    cases vs with
    | nil => exact ⟨[], List.nil_sublist _, by simp [Mi.subIo, pick, RdL]⟩
    | cons => simp at l
  | [], _ :: _, vs, ios, F, h, r, l => by simp [subOk] at h
  | _ :: _, [], vs, ios, F, h, r, l => by simp [subOk] at h
  | a :: io, b :: io', [], ios, F, h, r, l => by simp at l
  | false :: io, b :: io', v :: vs, ios, F, h, r, l => by
    simp only [subOk, Bool.false_or, Bool.and_eq_true, Bool.not_eq_true'] at h
    obtain ⟨rfl, h⟩ := h
    rw [pick] at r
    obtain ⟨F', s, r'⟩ := RdL.subIo h r (by simpa using l)
    refine ⟨F', s, ?_⟩
    rw [pick]
    cases ios <;> exact r'
  | true :: io, b :: io', v :: vs, ios, F, h, r, l => by
    simp only [subOk, Bool.true_or, Bool.true_and] at h
    rw [pick] at r
    cases ios with
    | nil => rw [RdL] at r; simp at r
    | cons d ios =>
      rw [RdL] at r
      obtain ⟨v', s', F1, F2, e, rfl, r1, r2⟩ := r
      cases e
      obtain ⟨F', s, r'⟩ := RdL.subIo h r2 (by simpa using l)
      cases b with
      | true =>
        refine ⟨F1 ++ F', List.Sublist.append_left s F1, ?_⟩
        rw [pick, Mi.subIo, if_pos rfl, RdL]
        exact ⟨v, _, F1, F', rfl, rfl, r1, r'⟩
      | false =>
        refine ⟨F', s.trans (List.sublist_append_right ..), ?_⟩
        rw [pick, Mi.subIo, if_neg Bool.false_ne_true]
        exact r'
theorem subOk_len : ∀ {io io' : List Bool}, subOk io io' = true → io.length = io'.length
  | [], [], _ => rfl
  | _ :: r, _ :: r', h => by simp only [subOk, Bool.and_eq_true] at h; simp [subOk_len h.2]
  | [], _ :: _, h => by simp [subOk] at h
  | _ :: _, [], h => by simp [subOk] at h
theorem spM_drop {C : Ct} {io io' : List Bool} {f : Fun} (h : subOk io io' = true) {vs : List V} {H : Hp} {Q : VK} {E : XK} (s : spM C false io' (fDrop io io' f) vs H Q E) : spM C false io f vs H Q E := by
  obtain ⟨ds, Z, F, h1, h2, h3, h4⟩ := s
  have hl : vs.length = io.length := h1.trans (subOk_len h).symm
  refine ⟨ds, Z, F, hl, h2, h3, ?_⟩
  unfold fDrop at h4
  cases hf : f ds with
  | no => rw [hf] at h4; exact h4
  | ex x ios => rw [hf] at h4; exact absurd h4.1 Bool.false_ne_true
  | ok d ios =>
    rw [hf] at h4
    intro v Z' H' Fv Fi x rv ri
    obtain ⟨F', sl, r'⟩ := RdL.subIo h ri hl
    refine h4 v Z' H' Fv F' (x.sub (List.nodup_append.mpr ⟨nodup_left x.ok.nd, sl.nodup (nodup_right x.ok.nd), fun a ha b hb e => ?_⟩) fun a ha => ?_) rv r'
    · subst e
      exact x.ok.disj a ha (sl.mem hb)
    · rcases List.mem_append.mp ha with z | z
      · exact List.mem_append_left _ z
      · exact List.mem_append_right _ (sl.mem z)
theorem FnG.imp {P : Program} {w : World} {K : PySem.W.Frag} {mg : Str → Option Value} {base : Heap} {CX : CXT} {k : Nat} {f : Addr} {fd : FuncData} {ps : List Str} {sp sp' : Sp} (F : FnG P w K mg base CX k f fd ps sp) (h : ∀ vs H Q E, sp' vs H Q E → sp vs H Q E) : FnG P w K mg base CX k f fd ps sp' :=
  ⟨fun vs H Q E s => F.len vs H Q E (h _ _ _ _ s), fun A o s H a us vs Q E hr e0 hb rv hs => F.run A o s H a us vs Q E hr e0 hb rv (h _ _ _ _ hs)⟩
theorem Cal.drop {P : Program} {w : World} {K : PySem.W.Frag} {mg : Str → Option Value} {base : Heap} {k : Nat} {x : Str} {ps : List Str} {C : Ct} {io : List Bool} {f : Fun} (io' : List Bool) (c : Cal P w K mg base CX0 k x ps (spM C false io f)) (h : subOk io io' = true := by rfl) : Cal P w K mg base CX0 k x ps (spM C false io' (fDrop io io' f)) := by
  obtain ⟨a, fd, F, r⟩ := c.ex
  exact ⟨a, fd, FnG.imp F fun vs H Q E s => spM_drop h s, r⟩
end Mi

set_option maxHeartbeats 4000000
namespace Mi
open PySem PySem.Spec PyProof.Rows L2 RZ Ov PpSet

/-! ### == : texts and numbers at once, other data by their shape -/
def fEq2 : D → D → Option D
  | .str x, .str y => some (.bl (decide (x = y)))
  | .int x, .int y => some (.bl (decide (x = y)))
  | d, e => fEq d e
def fNe2 : D → D → Option D
  | .str x, .str y => some (.bl (!decide (x = y)))
  | .int x, .int y => some (.bl (!decide (x = y)))
  | d, e => fNe d e
def rEqU (K : PySem.W.Frag) : R2 := fun x y H Q => rEqD K x y H Q ∨ rEq x y H Q
def rNeU (K : PySem.W.Frag) : R2 := fun x y H Q => rNeD K x y H Q ∨ rNe x y H Q
theorem o_eqU {X : Cx} (K : PySem.W.Frag) (hu : X.A.units + 64 < cLine) (h : X.K = K := by rfl) : OpR X (compareOp .Eq) (rEqU K) := OpR.or (k_eqD K hu h) op_eq
theorem o_neU {X : Cx} (K : PySem.W.Frag) (hu : X.A.units + 64 < cLine) (h : X.K = K := by rfl) : OpR X (compareOp .NotEq) (rNeU K) := OpR.or (k_neD K hu h) op_ne
theorem f_eq2 {C : Ct} : Fn2 C (rEqU C.K) fEq2 := by
  intro d v Fd d' v' Fd' Z H F Q e o rd rd' hf p
  unfold fEq2 at hf
  split at hf
  · cases hf
    refine .inr ⟨by rw [rd.strI, rd'.strI]; rfl, ?_⟩
    rw [rd.strI, rd'.strI]
    have := post_val (Q := Q) o p rd_bl
    simpa using this
  · cases hf
    refine .inr ⟨by rw [rd.intI, rd'.intI]; rfl, ?_⟩
    rw [rd.intI, rd'.intI]
    have := post_val (Q := Q) o p rd_bl
    simpa using this
  · exact .inl (f_eq d v Fd d' v' Fd' Z H F Q e o rd rd' hf p)
theorem f_ne2 {C : Ct} : Fn2 C (rNeU C.K) fNe2 := by
  intro d v Fd d' v' Fd' Z H F Q e o rd rd' hf p
  unfold fNe2 at hf
  split at hf
  · cases hf
    refine .inr ⟨by rw [rd.strI, rd'.strI]; rfl, ?_⟩
    rw [rd.strI, rd'.strI]
    have := post_val (Q := Q) o p rd_bl
    simpa using this
  · cases hf
    refine .inr ⟨by rw [rd.intI, rd'.intI]; rfl, ?_⟩
    rw [rd.intI, rd'.intI]
    have := post_val (Q := Q) o p rd_bl
    simpa using this
  · exact .inl (f_ne d v Fd d' v' Fd' Z H F Q e o rd rd' hf p)
end Mi

set_option maxHeartbeats 4000000
namespace L2
open PySem PySem.Spec PyProof.Rows
theorem tuple_mul1 (l : Addr) (items : Array Value) (n : Nat) (dd : Option Addr) (sl : Array (Option Value)) (x : Int) (u : Tok) (c0 : (decide (x < -(2 ^ 63)) || decide (x ≥ 2 ^ 63)) = false) (c1 : (items.isEmpty || x == 1) = true) :
    Meets (Builtin.«tuple.__mul__» ⟨[.ref l, .int x u], []⟩) (fun _ R s => s.heap.get? l = some { cls := .type "tuple", dict := dd, data := .seq items n, slots := sl } ∧
      R (.ok (.ret (Value.ref l))) s) :=
  .of_wp fun prog w A R s h => by
    obtain ⟨hp, g, d, tk, os⟩ := s
    obtain ⟨hl, h⟩ := h
    have f1 := AutoSeq1.idx_int
    wp_walk using wpAny_loadPart' hl
    refine wpAny_ite_false (decide_eq_false (by rw [c0]; exact Bool.false_ne_true)) ?_
    wp_walk using wpAny_loadPart' hl
    exact ⟨_, rfl, h⟩
theorem tuple_mul0 (l : Addr) (items : Array Value) (n : Nat) (dd : Option Addr) (sl : Array (Option Value)) (x : Int) (u : Tok) (c0 : (decide (x < -(2 ^ 63)) || decide (x ≥ 2 ^ 63)) = false) (c1 : (items.isEmpty || x == 1) = false) (c2 : (decide (x ≤ 0) || items.isEmpty) = true) :
    Meets (Builtin.«tuple.__mul__» ⟨[.ref l, .int x u], []⟩) (fun _ R s => s.heap.get? l = some { cls := .type "tuple", dict := dd, data := .seq items n, slots := sl } ∧
      R (.ok (.ret (Value.ref s.heap.objs.size))) { s with heap := s.heap.push { cls := Value.type "tuple", data := Data.seq #[] }, toks := s.toks }) :=
  .of_wp fun prog w A R s h => by
    obtain ⟨hp, g, d, tk, os⟩ := s
    obtain ⟨hl, h⟩ := h
    have f1 := AutoSeq1.idx_int
    wp_walk using wpAny_loadPart' hl
    refine wpAny_ite_false (decide_eq_false (by rw [c0]; exact Bool.false_ne_true)) ?_
    wp_walk using wpAny_loadPart' hl
    exact ⟨_, rfl, h⟩
def rRep1 (K : PySem.W.Frag) : R2 := fun x y H Q => ∃ l k xs, x = .ref l ∧ y = .int k ∧ SqT K H l xs ∧ -1000 ≤ k ∧ k ≤ 1000 ∧ (xs = [] ∨ k = 1) ∧ Q (.ref l) H
def rRep0 (K : PySem.W.Frag) : R2 := fun x y H Q => ∃ l k xs, x = .ref l ∧ y = .int k ∧ SqT K H l xs ∧ xs ≠ [] ∧ -1000 ≤ k ∧ k ≤ 0 ∧ ∀ p, H p = none → Q (.ref p) (upd H p (.tup []))
section
variable {X : Cx}
theorem op_rep1 : OpR X (binaryOp .Mult) (rRep1 X.K) := by
  intro pins s σ H x y v u Q I rx ry h
  obtain ⟨l, k, xs, rfl, rfl, hT, h1, h2, hz, q⟩ := h
  cases rx
  obtain ⟨t, rfl⟩ := ry
  obtain ⟨its, r, ⟨⟨cls, dd, data, sl⟩, ho, hc, n, hd⟩, hs⟩ := I.tuple hT
  simp only at hc hd
  subst hc hd
  have hle : its.length = xs.length := r.length.symm
  have c0 : (decide (k < -(2 ^ 63)) || decide (k ≥ 2 ^ 63)) = false := by
    rw [decide_eq_false (by omega), decide_eq_false (by omega)] <;> rfl
  have c1 : (its.toArray.isEmpty || k == 1) = true := by
    rcases hz with rfl | rfl
    · rw [List.eq_nil_of_length_eq_zero hle]; rfl
    · rw [beq_self_eq_true, Bool.or_true]
  refine wpAny_binaryOp_repeat_ref (T := "tuple") (U := "int") (by decide) ⟨_, ho, rfl⟩ (fun s' => typeIs_int s' k t) noFill_tuple_mul F.fills_int_mul F.slot_int_rmul repeat_tuple F.slot_int_index.lookup
    (call_meets F.slot_int_rmul (typeIs_int s k t) F.entry_int_rmul (F.args_int_rmul_2 _ _) (int_rmul_tuple k t l its.toArray n dd sl)
      ⟨ho, rfl, ⟨_, ho, rfl⟩, call_meets F.slot_tuple_mul ⟨_, ho, rfl⟩ F.entry_tuple_mul (F.args_tuple_mul_2 _ _) (tuple_mul1 l its.toArray n dd sl k t c0 c1) ⟨ho, ?_⟩⟩)
  exact ⟨.ref l, _, I, rfl, q⟩
theorem op_rep0 : OpR X (binaryOp .Mult) (rRep0 X.K) := by
  intro pins s σ H x y v u Q I rx ry h
  obtain ⟨l, k, xs, rfl, rfl, hT, hne, h1, h2, q⟩ := h
  cases rx
  obtain ⟨t, rfl⟩ := ry
  obtain ⟨its, r, ⟨⟨cls, dd, data, sl⟩, ho, hc, n, hd⟩, hs⟩ := I.tuple hT
  simp only at hc hd
  subst hc hd
  have hle : its.length = xs.length := r.length.symm
  have hn : its ≠ [] := fun e => hne (by
    rw [e] at hle
    exact List.eq_nil_of_length_eq_zero hle.symm)
  have hi : its.toArray.isEmpty = false := by
    cases its with
    | nil => exact absurd rfl hn
    | cons a b => rfl
  have c0 : (decide (k < -(2 ^ 63)) || decide (k ≥ 2 ^ 63)) = false := by
    rw [decide_eq_false (by omega), decide_eq_false (by omega)] <;> rfl
  have c1 : (its.toArray.isEmpty || k == 1) = false := by
    rw [hi, Bool.false_or]
    exact beq_eq_false_iff_ne.mpr (by omega)
  have c2 : (decide (k ≤ 0) || its.toArray.isEmpty) = true := by
    rw [decide_eq_true h2]; rfl
  refine wpAny_binaryOp_repeat_ref (T := "tuple") (U := "int") (by decide) ⟨_, ho, rfl⟩ (fun s' => typeIs_int s' k t) noFill_tuple_mul F.fills_int_mul F.slot_int_rmul repeat_tuple F.slot_int_index.lookup
    (call_meets F.slot_int_rmul (typeIs_int s k t) F.entry_int_rmul (F.args_int_rmul_2 _ _) (int_rmul_tuple k t l its.toArray n dd sl)
      ⟨ho, rfl, ⟨_, ho, rfl⟩, call_meets F.slot_tuple_mul ⟨_, ho, rfl⟩ F.entry_tuple_mul (F.args_tuple_mul_2 _ _) (tuple_mul0 l its.toArray n dd sl k t c0 c1 c2) ⟨ho, ?_⟩⟩)
  refine ⟨.ref s.heap.objs.size, _, I.laid (t' := s.toks) (o := .tup []) (fun b ob q => Heap.get?_push_of_some _ q) (Nat.le_refl _) ?_, rfl, q _ (I.hok.fresh (Nat.le_refl _))⟩
  exact ⟨by decide, _, .nil, IsTup.new _ _⟩
end
end L2
namespace Mi
open PySem PySem.Spec PyProof.Rows L2 RZ Ov PpSet
/-- tuple * int, of any number -/
def fMul2 : D → D → Option D
  | .tup a, .int k => if -1000 ≤ k ∧ k ≤ 1000 ∧ a.length ≤ 1000 then some (.tup (List.replicate k.toNat a).flatten) else none
  | d, e => fMul d e
def rMulV (K : PySem.W.Frag) : R2 := fun x y H Q => rMulU K x y H Q ∨ (rRep1 K x y H Q ∨ rRep0 K x y H Q)
theorem o_mul2 {X : Cx} (K : PySem.W.Frag) (h : X.K = K := by rfl) : OpR X (binaryOp .Mult) (rMulV K) := by
  subst h
  exact OpR.or (o_mul _) (OpR.or op_rep1 op_rep0)
theorem f_mul2 {C : Ct} : Fn2 C (rMulV C.K) fMul2 := by
  intro d v Fd d' v' Fd' Z H F Q e o rd rd' hf p
  unfold fMul2 at hf
  split at hf
  · split at hf
    · rename_i a k q
      cases hf
      have rd0 := rd
      obtain ⟨_, x, vs, rfl, h1, h2⟩ := rd.tupP o.zh
      rw [rd'.intI]
      by_cases hz : vs = [] ∨ k = 1
      · refine .inr (.inl ⟨x, k, vs, rfl, rfl, h1, q.1, q.2.1, hz, post_val o p ?_⟩)
        have e : (List.replicate k.toNat a).flatten = a := by
          rcases hz with z | rfl
          · have : a = [] := List.eq_nil_of_length_eq_zero (by rw [h2.length, z]; rfl)
            subst this
            simp
          · simp
        rw [e]
        rw [RdV] at rd0 ⊢
        exact ⟨rfl, rd0.2⟩
      · rw [not_or] at hz
        by_cases hk : k ≤ 0
        · refine .inr (.inr ⟨x, k, vs, rfl, rfl, h1, hz.1, q.1, hk, fun pp hp => ?_⟩)
          have e : (List.replicate k.toNat a).flatten = [] := by rw [show k.toNat = 0 by omega]; rfl
          rw [e] at p
          exact post_tup o p hp RdL.nil0
        · exact .inl (.inr (.inr ⟨x, _, vs, rfl, rfl, h1, hz.1, by omega, q.2.1, by rw [← h2.length]; exact q.2.2, fun pp hp => post_tup o p hp (h2.rep0 _)⟩))
    · cases hf
  · exact .inl (f_mul d v Fd d' v' Fd' Z H F Q e o rd rd' hf p)
end Mi

set_option maxHeartbeats 4000000
namespace Mi
open PySem PySem.Spec PyProof.Rows L2 RZ Ov PpSet
section
variable {X : Cx} {N : Cn} {st : Bool}
/-! ### names = values, through a tuple that nobody keeps -/
def QNs (X : Cx) (is : List Nat) (es : List Expr) : Prop := ∃ t : TGs, PGs X es t ∧ ∀ vs σ H Q, vs.length = is.length → Q (setsV σ is vs) H → t vs σ H Q
theorem qns_nil : QNs X [] [] := ⟨gNil, pgs_nil, fun vs σ H Q hl q => by
  cases vs with
  | nil => exact ⟨rfl, q⟩
  | cons => cases hl⟩
theorem qns_cons {is : List Nat} {es : List Expr} {pos : Pos} (i : Nat) {x : Str} (hN : X.N.Nodup) (h : QNs X is es) (hi : X.N[i]? = some x := by rfl) (hx : Loc X.env.scope x := by first | exact Or.inl rfl | exact Or.inr rfl)
    (hf : X.fn x = true ∨ X.env.scope.names.lookup x = some .local := by first | exact .inl rfl | exact .inr rfl) (ha : (assignEach (.Name x pos :: es) X.env).map (·.2) = assign (.Name x pos) X.env :: (assignEach es X.env).map (·.2) := by rfl) : QNs X (i :: is) (.Name x pos :: es) := by
  obtain ⟨t, p, q⟩ := h
  refine ⟨_, pgs_cons (pg_name hN hi hx hf) p ha, fun vs σ H Q hl k => ?_⟩
  cases vs with
  | nil => cases hl
  | cons v vs => exact ⟨v, vs, rfl, q vs _ H Q (by simpa using hl) k⟩
def sParN (is : List Nat) (m : ML) : MS := fun env => (m env).bind fun ds e => if ds.length = is.length ∧ ds.length ≤ sizeLine then .ok .nx (setsE e is ds) else .no
theorem setsV_len : ∀ {is : List Nat} {vs : List V} {σ : L2.St}, (setsV σ is vs).length = σ.length
  | [], vs, σ => by cases vs <;> rfl
  | i :: is, [], σ => rfl
  | i :: is, v :: vs, σ => by rw [setsV, setsV_len, List.length_set]
theorem setsV_get {q : Nat} : ∀ {is : List Nat} {vs : List V} {σ : L2.St}, q ∉ is → (setsV σ is vs)[q]? = σ[q]?
  | [], vs, σ, _ => by cases vs <;> rfl
  | i :: is, [], σ, _ => rfl
  | i :: is, v :: vs, σ, h => by
    rw [List.mem_cons, not_or] at h
    rw [setsV, setsV_get h.2, List.getElem?_set_ne (Ne.symm h.1)]
theorem rs_parN {is : List Nat} {t : TA} {gs : TGs} {n : Nat} {m : ML} (h : RefA N st t m) (hg : ∀ vs σ H Q, vs.length = is.length → Q (setsV σ is vs) H → gs vs σ H Q) (hn : n = is.length) (hp : gOk is N.pin = true) : RefS N (tAsg (tTup t) (gTup N.C.K n gs)) (sParN is m) := fun env σ Z H F D0 o r w => by
  refine h env σ Z H F _ o r (w.bind.mono (Pin.refl _ _) (Ext.refl o) ?_)
  intro ds env1 k vs Z1 H1 Fv F1 x rv r1 _
  by_cases q : ds.length = is.length ∧ ds.length ≤ sizeLine
  · rw [if_pos q] at k
    have hl := rv.length
    refine ⟨by omega, fun p hpn => ?_⟩
    have y := Ext.junk (o := .tup vs) x.ok hpn
    have rv2 : RdL N.C Z1 (upd H1 p (.tup vs)) ds vs Fv := rv.same (Same.refl _) (same_new hpn)
    have r2 : RdE N.C Z1 (upd H1 p (.tup vs)) env1 σ F1 := r1.same (Same.refl _) (same_new hpn)
    refine ⟨p, vs, rfl, sqT_of upd_same, by omega, hg vs σ _ _ (by omega) ?_⟩
    obtain ⟨F2, h1, h2, h3⟩ := rd_sets (is := is) y.ok r2 rv2
    refine k _ Z1 _ F2 ⟨setsV_len, fun q hq => setsV_get fun z => ?_⟩ ((x.trans y).sub h1 h2) h3
    have := List.all_eq_true.mp hp q hq
    simp [z] at this
  · rw [if_neg q] at k
    exact k.elim
theorem qs_parN {is : List Nat} {as es : List Expr} {ms : ML} {pos pt pt2 : Pos} {kt k2 : Nat} (ag : Ag X N) (ha : QA X N st as ms) (hg : QNs X is es) (hpin : gOk is N.pin = true := by rfl) (hc : X.calm = true := by rfl)
    (hn : (assignEach es X.env).length = is.length := by rfl) (hst : (assignEach es X.env).findIdx? (·.1) = none := by rfl)
    (hs : swapsWithSole [.Tuple es kt pt] (.Tuple as k2 pt2) pos.line X.env = pure false := by rfl) (hw : swappedStores [.Tuple es kt pt] (.Tuple as k2 pt2) X.env = pure none := by rfl)
    (h1 : (assignEach [.Tuple es kt pt] X.env).map (·.2) = [assign (.Tuple es kt pt) X.env] := by rfl) : QS X N (.Assign [.Tuple es kt pt] (.Tuple as k2 pt2) pos) (sParN is ms) := by
  obtain ⟨_, p', q⟩ := ha
  obtain ⟨gs, p2, q2⟩ := hg
  have pg := pg_tup (X := X) (pos := pt) (k := kt) hc p2 hn hst
  rw [ag.K] at pg
  exact ⟨_, ps_asg (pe_tup p') pg hs hw h1, rs_parN q q2 rfl hpin⟩
/-! ### a, b, c = a list -/
def gUL (gs : MGs) : MG := fun d env => match d with | .lst _ ds => if fznL ds then gs ds env else none | _ => none
theorem rg_u {ws : List Nat} {n : Nat} {gs : TGs} {ms : MGs} (h : RefGs N ws n gs ms) : RefG N ws (gUnl N.C.K n gs) (gUL ms) := fun env σ Z H F Fv d v Q env' o r rv e k => by
  cases d with
  | lst b ds =>
    have e : (if fznL ds then ms ds env else none) = some env' := e
    by_cases q : fznL ds = true
    · rw [if_pos q] at e
      obtain ⟨a, vs, G, rfl, h1, h2⟩ := rv.lstD o.zh rfl
      have h3 := h2.nof q
      have o1 : Ok Z H F := o.sub (nodup_right o.nd) fun a ha => List.mem_append_right _ ha
      refine ⟨a, vs, rfl, h1, by rw [← h2.length]; exact h.len ds env env' e, ?_⟩
      exact h.run env σ Z H F ds vs Q env' o1 r h3 e fun σ' F' g1 g2 g3 g4 => k σ' F' g1 (fun a ha => List.mem_append_right _ (g2 a ha)) g3 g4
    · rw [if_neg q] at e
      cases e
  | _ => cases e
theorem qg_u {ws : List Nat} {es : List Expr} {mgs : MGs} {pos : Pos} {k nn : Nat} (ag : Ag X N) (h : QGs X N ws nn es mgs) (hc : X.calm = true := by rfl) (hn : (assignEach es X.env).length = nn := by rfl) (hst : (assignEach es X.env).findIdx? (·.1) = none := by rfl) : QG X N ws (.Tuple es k pos) (gUL mgs) := by
  obtain ⟨_, p', q⟩ := h
  have := pg_unl (X := X) (pos := pos) (k := k) hc p' hn hst
  rw [ag.K] at this
  exact ⟨_, this, rg_u q⟩
end
section
variable {P : Program} {w : World} {K : PySem.W.Frag} {mg : Str → Option Value} {base : Heap} {cls : String → Option Addr} {k n : Nat} {stm : Stmt} {f : Addr} {fd : FuncData} {ps Ns : List Str} {io : List Bool} {m : MS}
/-- a def under another global name -/
theorem cal_A {x g : Str} (F : L2.Fun K x x stm f fd) (hm : mg g = some (.ref f)) (b : Binds K fd ps []) (S : FnScope Ns ps (defScope stm)) (hio : io.length = ps.length) (hn : Ns.length = io.length + n) (h : QBody P w K mg base cls k x stm f Ns io m) :
    Cal P w K mg base CX0 (k + 1) g ps (spM ⟨K, cls, P, w⟩ false io (fnOf n io m)) :=
  ⟨f, fd, fnG_mk F S (spM_len hio) (body_M hn h), hm, F.kp, b, let ⟨oc, od, _, _, _, _, _, _, osl, _, h, _⟩ := F.ex; ⟨oc, od, osl, h⟩⟩
end
end Mi

set_option maxHeartbeats 4000000
namespace Mi
open PySem PySem.Spec PyProof.Rows L2 RZ Ov PpSet
/-! ### defaults -/
/-- f(e, ..), the last arguments ds -/
def fPad (ds : List D) (f : Fun) : Fun := fun as => f (as ++ ds)
theorem rd_flat {C : Ct} {Z H : Hp} {d : D} (h : flatD d = true) : RdV C Z H d (vF d) [] := by
  cases d with
  | non => rw [RdV]; exact ⟨rfl, rfl⟩
  | bl b => rw [RdV]; exact ⟨rfl, rfl⟩
  | int b => rw [RdV]; exact ⟨rfl, rfl⟩
  | str b => rw [RdV]; exact ⟨rfl, rfl⟩
  | _ => cases h
theorem rdL_flat {C : Ct} {Z H : Hp} : ∀ {ds : List D}, ds.all flatD = true → RdL C Z H ds (ds.map vF) []
  | [], _ => RdL.nil0
  | d :: ds, h => by
    rw [List.all_cons, Bool.and_eq_true] at h
    exact RdL.cons0 (rd_flat h.1) (rdL_flat h.2)
theorem pick_pad {α : Type} : ∀ {io : List Bool} {vs : List α} {n : Nat} {us : List α}, vs.length = io.length → pick (io ++ List.replicate n false) (vs ++ us) = pick io vs
  | [], [], n, us, _ => by
    have : ∀ (n : Nat) (us : List α), pick (List.replicate n false) us = [] := by
      intro n
      induction n with
      | zero => intro us; cases us <;> rfl
      | succ n ih =>
        intro us
        cases us with
        | nil => rfl
        | cons a us => rw [List.replicate_succ, pick]; exact ih us
    rw [List.nil_append, List.nil_append, this]
    rfl
  | [], v :: vs, n, us, h => by cases h
  | b :: io, [], n, us, h => by cases h
  | true :: io, v :: vs, n, us, h => by
    rw [List.cons_append, List.cons_append, pick, pick, pick_pad (by simpa using h)]
  | false :: io, v :: vs, n, us, h => by
    rw [List.cons_append, List.cons_append, pick, pick, pick_pad (by simpa using h)]
theorem spM_pad {C : Ct} {xc : Bool} {io : List Bool} {f : Fun} {vs : List V} {H : Hp} {Q : VK} {E : XK} {dd : List D} (hd : dd.all flatD = true) (h : spM C xc io (fPad dd f) vs H Q E) : spM C xc (io ++ List.replicate dd.length false) f (vs ++ dd.map vF) H Q E := by
  obtain ⟨ds, Z, F, hl, rl, ok, m⟩ := h
  refine ⟨ds ++ dd, Z, F, by simp [hl], rl.appG (rdL_flat hd), ok, ?_⟩
  rw [pick_pad hl]
  exact m
section
variable {X : Cx} {N : Cn} {st : Bool}
theorem re_callD {xc : Bool} {f : Fun} {as : List Arg} {t : TA} {E : XK} {io : List Bool} (dd : List D) (hd : dd.all flatD = true) (h : RefM N st t as) (hio : ioOf as ++ List.replicate dd.length false = io) (hx : ∀ σ, WE' N xc σ E) : RefE N false (tCall (spM N.C xc io f) (dd.map vF) E t) (eCall (fPad dd f) as) := fun env σ Z H F Q o r w => by
  subst hio
  refine h env σ Z H F _ o r (w.bind.mono (Pin.refl _ _) (Ext.refl o) ?_)
  intro ms env1 k vs Z1 H1 Fv F1 x rm r1 _
  exact spM_pad hd (call_core (hx σ) x rm r1 k)
structure CalD (P : Program) (w : World) (K : PySem.W.Frag) (mg : Str → Option Value) (base : Heap) (CX : CXT) (k : Nat) (x : Str) (ps : List Str) (dvs : List V) (sp : Sp) : Prop where
  ex : ∃ (f : Addr) (fd : FuncData), FnG P w K mg base CX k f fd ps sp ∧ mg x = some (.ref f) ∧ PySem.W.keepIn K (.ref f) = true ∧ ∃ ds, Vals dvs ds ∧ Binds K fd ps ds
theorem q_callD {k j : Nat} {x : Str} {ps : List Str} {io : List Bool} {f : Fun} {xc : Bool} {p pos : Pos} {e : Expr} {es : List Expr} {as : List Arg} (dd : List D) (cl : CalD X.prog X.w X.K X.mg X.base CX0 k x ps (dd.map vF) (spM N.C xc io f)) (hr : Rm j X.A) (ha : QM X N st (e :: es) as) (hd : dd.all flatD = true := by rfl) (hio : ioOf as ++ List.replicate dd.length false = io := by rfl) (hpx : N.px = none := by rfl) (hk : k ≤ j := by decide) (hg : Gl X x := by rfl)
    (hdb : (x == ("__debug__" : Str)) = false := by decide) (he : starEach (e :: es) X.env = (false, eval e X.env) :: starEach es X.env := by rfl) (hpl : (backTo pos (starEach es X.env)).any (·.1) = false := by rfl) :
    QE X N false (.Call (.Name x p) (e :: es) [] pos) (eCall (fPad dd f) as) := by
  obtain ⟨t, p', q⟩ := ha
  obtain ⟨g, fd, F, hm, kp, ds, vd, b⟩ := cl.ex
  exact ⟨_, peG_call F (hr.mono hk) hg hm kp b vd pass0 p' hdb he hpl, re_callD dd hd q hio (we_none hpx)⟩
end
section
variable {P : Program} {w : World} {K : PySem.W.Frag} {mg : Str → Option Value} {base : Heap} {cls : String → Option Addr} {k n : Nat} {stm : Stmt} {f : Addr} {fd : FuncData} {ps Ns : List Str} {io : List Bool} {m : MS} {dvs : List V}
/-- a def with defaults -/
abbrev FunW (K : PySem.W.Frag) (x : Str) (stm : Stmt) (dvs : List V) (f : Addr) (fd : FuncData) : Prop := FunD K x x (defArgs stm) (defBody stm) (defScope stm) dvs [] f fd
theorem fnG_D {x : Str} {sp : Sp} (F : FunW K x stm dvs f fd) (S : FnScope Ns ps (defScope stm)) (len : ∀ vs H Q E, sp vs H Q E → vs.length = ps.length)
    (hbody : Body P w K mg base k x stm f Ns sp) : FnG P w K mg base CX0 (k + 1) f fd ps sp := by
  obtain ⟨oc, od, dV, kV, doc, pm, an, cdv, ct, osl, rfl, lk, hcd, _, _⟩ := F.ex
  refine fnG_of lk hcd S len ?_
  intro A outer s H vs Q E hr hsp
  obtain ⟨t, h, q⟩ := hbody cdv A outer s H vs Q E hr hsp
  exact ⟨t, h.nox, q⟩
theorem cal_D {x : Str} (F : FunW K x stm dvs f fd) (hm : mg x = some (.ref f)) (b : ∃ ds, Vals ([] : List V) ds ∧ Binds K fd ps ds) (S : FnScope Ns ps (defScope stm)) (hio : io.length = ps.length) (hn : Ns.length = io.length + n) (h : QBody P w K mg base cls k x stm f Ns io m) :
    Cal P w K mg base CX0 (k + 1) x ps (spM ⟨K, cls, P, w⟩ false io (fnOf n io m)) := by
  obtain ⟨ds, vd, b⟩ := b
  cases vd
  exact ⟨f, fd, fnG_D F S (spM_len hio) (body_M hn h), hm, F.kp, b, let ⟨oc, od, _, _, _, _, _, _, _, osl, _, h, _⟩ := F.ex; ⟨oc, od, osl, h⟩⟩
theorem cal_DD {x : Str} {us : List V} (F : FunW K x stm dvs f fd) (hm : mg x = some (.ref f)) (b : ∃ ds, Vals us ds ∧ Binds K fd ps ds) (S : FnScope Ns ps (defScope stm)) (hio : io.length = ps.length) (hn : Ns.length = io.length + n) (h : QBody P w K mg base cls k x stm f Ns io m) :
    CalD P w K mg base CX0 (k + 1) x ps us (spM ⟨K, cls, P, w⟩ false io (fnOf n io m)) :=
  ⟨f, fd, fnG_D F S (spM_len hio) (body_M hn h), hm, F.kp, b⟩
end
end Mi

set_option maxHeartbeats 4000000
namespace Mi
open PySem PySem.Spec PyProof.Rows L2 RZ Ov PpSet

/-- keeps simp from taking a law as a mere unfolding -/
theorem nrfl {α : Sort _} {a b : α} (h : a = b) : a = b := h
/-! ### mirrors are run by simp; what comes behind a step waits for it -/
/-- a mark that holds what comes next: simp leaves it as it is -/
abbrev Tg {α : Sort _} (_ : α) : Type := Unit
def R.bindL {α β : Type} (r : R α) (f : α → Env → R β) (_ : Tg f) : R β := r.bind f
def R.bind0L {α β : Type} (r : R α) (f : α → Env → R β) (_ : Tg f) : R β := r.bind0 f
def R.ite {α : Type} (b : Bool) (x y : Unit → R α) (_ : Tg x) (_ : Tg y) : R α := match b with | true => x () | false => y ()
theorem R.ite_t {α : Type} {x y : Unit → R α} : R.ite true x y () () = x () := nrfl rfl
theorem R.ite_f {α : Type} {x y : Unit → R α} : R.ite false x y () () = y () := nrfl rfl
def getR {α : Type} (o : Option (Option D)) (k : D → R α) (_ : Tg k) : R α := match o with | some (some d) => k d | _ => .no
theorem getR_s {α : Type} {d : D} {k : D → R α} : getR (some (some d)) k () = k d := nrfl rfl
def liftK {α : Type} (o : Option D) (k : D → R α) (_ : Tg k) : R α := match o with | some d => k d | none => .no
theorem liftK_s {α : Type} {d : D} {k : D → R α} : liftK (some d) k () = k d := nrfl rfl
section
variable {env : Env} {m n l : ME} {c x y : MB} {mS nS : MS} {ms : ML} {d : D} {i j : Nat}
theorem v_bo {α β : Type} {a : α} {e : Env} {f : α → Env → R β} : (R.ok a e).bind f = f a e := nrfl rfl
theorem v_b0 {α β : Type} {a : α} {e : Env} {f : α → Env → R β} : (R.ok a e).bind0 f = f a e := nrfl rfl
theorem b_bo {α β : Type} {a : α} {e : Env} {f : α → Env → R β} : (R.ok a e).bindL f () = f a e := nrfl rfl
theorem b_b0 {α β : Type} {a : α} {e : Env} {f : α → Env → R β} : (R.ok a e).bind0L f () = f a e := nrfl rfl
theorem v_c : eC d env = .ok d env := nrfl rfl
theorem v_v : eV i env = getR env[i]? (fun d => .ok d env) () := by unfold eV getR; rfl
theorem v_mv : eMv i env = getR env[i]? (fun d => .ok d (env.set i none)) () := by unfold eMv getR; rfl
theorem v_vk : eVk i env = getR env[i]? (fun d => R.ite (fzn d) (fun _ => .ok d env) (fun _ => .ok (fz d) (env.set i (some (fz d)))) () ()) () := by
  unfold eVk getR
  rcases env[i]? with _ | _ | d
  · rfl
  · rfl
  · simp only; cases h : fzn d <;> rfl
theorem v_k : eK m env = (m env).bindL (fun d e => R.ite (fzn d) (fun _ => .ok d e) (fun _ => .no) () ()) () := by
  simp only [R.bindL, R.bind0L]
  unfold eK
  congr 1
  funext d e
  cases h : fzn d <;> rfl
theorem v_fk : eFk m env = (m env).bindL (fun d e => R.ite (fzn d) (fun _ => .ok d e) (fun _ => .ok (fz d) e) () ()) () := by
  simp only [R.bindL, R.bind0L]
  unfold eFk
  congr 1
  funext d e
  cases h : fzn d <;> rfl
theorem v_nil : lNil env = .ok [] env := nrfl rfl
theorem v_cons : lCons m ms env = (m env).bindL (fun d e => (ms e).bindL (fun ds e => .ok (d :: ds) e) ()) () := nrfl rfl
theorem v_1 {f : D → Option D} : e1 f m env = (m env).bindL (fun d e => liftK (f d) (fun r => .ok r e) ()) () := nrfl rfl
theorem v_2 {f : D → D → Option D} : e2 f m n env = (m env).bindL (fun d e => (n e).bindL (fun d' e => liftK (f d d') (fun r => .ok r e) ()) ()) () := nrfl rfl
theorem v_L {f : List D → Option D} : eL f ms env = (ms env).bindL (fun ds e => liftK (f ds) (fun r => .ok r e) ()) () := nrfl rfl
def asB {α : Type} (d : D) (k : Bool → R α) (_ : Tg k) : R α := match d with | .bl b => k b | _ => .no
theorem asB_b {α : Type} {b : Bool} {k : Bool → R α} : asB (.bl b) k () = k b := nrfl rfl
theorem v_bB : bB m env = (m env).bindL (fun d e => asB d (fun b => .ok b e) ()) () := by simp only [R.bindL, R.bind0L]; unfold bB; congr 1
theorem v_bAnd : bAnd x y env = (x env).bindL (fun b e => R.ite b (fun _ => y e) (fun _ => .ok false e) () ()) () := by simp only [R.bindL, R.bind0L]; unfold bAnd; congr 1; funext b e; cases b <;> rfl
theorem v_bOr : bOr x y env = (x env).bindL (fun b e => R.ite b (fun _ => .ok true e) (fun _ => y e) () ()) () := by simp only [R.bindL, R.bind0L]; unfold bOr; congr 1; funext b e; cases b <;> rfl
theorem v_bNot : bNot x env = (x env).bindL (fun b e => .ok (!b) e) () := nrfl rfl
theorem v_bYes : bYes env = .ok true env := nrfl rfl
theorem v_if : eIf c m n env = (c env).bindL (fun b e => R.ite b (fun _ => m e) (fun _ => n e) () ()) () := by simp only [R.bindL, R.bind0L]; unfold eIf; congr 1; funext b e; cases b <;> rfl
theorem v_and : eAnd m n env = (m env).bindL (fun d e => asB d (fun b => R.ite b (fun _ => n e) (fun _ => .ok (.bl false) e) () ()) ()) () := by
  simp only [R.bindL, R.bind0L]
  unfold eAnd; congr 1; funext d e
  cases d with
  | bl b => cases b <;> rfl
  | _ => rfl
theorem v_or : eOr m n env = (m env).bindL (fun d e => asB d (fun b => R.ite b (fun _ => .ok (.bl true) e) (fun _ => n e) () ()) ()) () := by
  simp only [R.bindL, R.bind0L]
  unfold eOr; congr 1; funext d e
  cases d with
  | bl b => cases b <;> rfl
  | _ => rfl
theorem v_not : eNot m env = (m env).bindL (fun d e => asB d (fun b => .ok (.bl (!b)) e) ()) () := by
  simp only [R.bindL, R.bind0L]
  unfold eNot; congr 1
theorem v_tup : eTup ms env = (ms env).bindL (fun ds e => R.ite (fznL ds && decide (ds.length ≤ sizeLine)) (fun _ => .ok (.tup ds) e) (fun _ => .no) () ()) () := by
  simp only [R.bindL, R.bind0L]
  unfold eTup; congr 1; funext ds e; cases h : (fznL ds && decide (ds.length ≤ sizeLine)) <;> simp [R.ite]
theorem v_lst : eLst ms env = (ms env).bindL (fun ds e => R.ite (decide (ds.length ≤ sizeLine)) (fun _ => .ok (.lst true ds) e) (fun _ => .no) () ()) () := by
  simp only [R.bindL, R.bind0L]
  unfold eLst; congr 1; funext ds e
  by_cases h : ds.length ≤ sizeLine
  · rw [if_pos h, decide_eq_true h]; rfl
  · rw [if_neg h, decide_eq_false h]; rfl
def asI {α : Type} (d : D) (cs : List String) (f : String) (k : D → R α) (_ : Tg k) : R α := match d with | .ins _ c fs => R.ite (cs.contains c) (fun _ => liftK (fs.lookup f) k ()) (fun _ => .no) () () | _ => .no
theorem asI_i {α : Type} {o : Bool} {cn : String} {fs : List (String × D)} {cs : List String} {f : String} {k : D → R α} : asI (.ins o cn fs) cs f k () = R.ite (cs.contains cn) (fun _ => liftK (fs.lookup f) k ()) (fun _ => .no) () () := nrfl rfl
theorem v_fld {cs : List String} {f : String} : eFld cs f m env = (m env).bindL (fun d e => asI d cs f (fun r => .ok r e) ()) () := by
  simp only [R.bindL, R.bind0L]
  unfold eFld asI; congr 1; funext d e
  cases d with
  | ins o cn fs =>
    simp only
    cases h : cs.contains cn
    · rfl
    · simp only [if_true, R.ite]
      unfold lift liftK
      cases fs.lookup f <;> rfl
  | _ => rfl
def optI {α : Type} (d : D) (k : Int → R α) (_ : Tg k) : R α := match d with | .int i => k i | _ => .no
theorem optI_i {α : Type} {i : Int} {k : Int → R α} : optI (.int i) k () = k i := nrfl rfl
theorem v_oN : oN env = .ok none env := nrfl rfl
theorem v_oS : oS m env = (m env).bindL (fun d e => optI d (fun i => .ok (some i) e) ()) () := by simp only [R.bindL, R.bind0L]; unfold oS optI; rfl
theorem v_sl {lo hi : MO} : eSl m lo hi env = (m env).bindL (fun d e => (lo e).bindL (fun a e => (hi e).bindL (fun b e => liftK (fSl d a b) (fun r => .ok r e) ()) ()) ()) () := nrfl rfl
theorem v_rg1 : eRg1 m env = (m env).bindL (fun d e => optI d (fun i => .ok (0, i) e) ()) () := by simp only [R.bindL, R.bind0L]; unfold eRg1 optI; rfl
theorem v_rg2 : eRg2 m n env = (m env).bindL (fun d e => (n e).bindL (fun d2 e => optI d (fun i => optI d2 (fun j => .ok (i, j) e) ()) ()) ()) () := by
  simp only [R.bindL, R.bind0L]
  unfold eRg2 optI; congr 1; funext d e; congr 1; funext d2 e; cases d <;> cases d2 <;> rfl
theorem v_lrg {g : Env → R (Int × Int)} : eLRg g env = (g env).bindL (fun ij e => R.ite (rgOk ij.1 ij.2) (fun _ => .ok (.lst true (rgL ij.1 ij.2)) e) (fun _ => .no) () ()) () := by
  simp only [R.bindL, R.bind0L]
  unfold eLRg; congr 1; funext ij e; cases h : rgOk ij.1 ij.2 <;> rfl
theorem v_trg {g : Env → R (Int × Int)} : eTRg g env = (g env).bindL (fun ij e => R.ite (rgOk ij.1 ij.2) (fun _ => .ok (.tup (rgL ij.1 ij.2)) e) (fun _ => .no) () ()) () := by
  simp only [R.bindL, R.bind0L]
  unfold eTRg; congr 1; funext ij e; cases h : rgOk ij.1 ij.2 <;> rfl
/-! chains -/
def chainK {α : Type} (o : Option D) (k q : Unit → R α) (_ : Tg k) (_ : Tg q) : R α := match o with | some (.bl true) => k () | some (.bl false) => q () | _ => .no
theorem chainK_b {α : Type} {b : Bool} {k q : Unit → R α} : chainK (some (.bl b)) k q () () = R.ite b k q () () := by cases b <;> rfl
theorem v_chain {f f' : D → D → Option D} : eChain f f' m n l env = (m env).bindL (fun x e => (n e).bindL (fun y e => chainK (f x y) (fun _ => (l e).bindL (fun z e => liftK (f' y z) (fun r => .ok r e) ()) ()) (fun _ => .ok (.bl false) e) () ()) ()) () := nrfl rfl
/-! statements -/
def Fl.k (fl : Fl) (e : Env) (k : Unit → R Fl) (_ : Tg k) : R Fl := match fl with | .nx => k () | fl => .ok fl e
theorem Fl.k_nx {e : Env} {k : Unit → R Fl} : Fl.k .nx e k () = k () := nrfl rfl
theorem Fl.k_rt {e : Env} {k : Unit → R Fl} : Fl.k (.rt d) e k () = .ok (.rt d) e := nrfl rfl
theorem Fl.k_bk {e : Env} {k : Unit → R Fl} : Fl.k .bk e k () = .ok .bk e := nrfl rfl
theorem Fl.k_ct {e : Env} {k : Unit → R Fl} : Fl.k .ct e k () = .ok .ct e := nrfl rfl
theorem v_seq : sSeq mS nS env = (mS env).bindL (fun fl e => Fl.k fl e (fun _ => nS e) ()) () := nrfl rfl
theorem v_pass : sPass env = .ok .nx env := nrfl rfl
theorem v_bk : sBk env = .ok .bk env := nrfl rfl
theorem v_ct : sCt env = .ok .ct env := nrfl rfl
theorem v_no : sNo env = .no := nrfl rfl
theorem v_ret : sRet m env = (m env).bindL (fun d e => .ok (.rt d) e) () := nrfl rfl
theorem v_retN : sRetN env = .ok (.rt .non) env := nrfl rfl
theorem v_expr : sExpr m env = (m env).bindL (fun _ e => .ok .nx e) () := nrfl rfl
theorem v_sif : sIf c mS nS env = (c env).bindL (fun b e => R.ite b (fun _ => mS e) (fun _ => nS e) () ()) () := by simp only [R.bindL, R.bind0L]; unfold sIf; congr 1; funext b e; cases b <;> rfl
def optE {α : Type} (o : Option Env) (k : Env → R α) (_ : Tg k) : R α := match o with | some e => k e | none => .no
theorem optE_s {α : Type} {e : Env} {k : Env → R α} : optE (some e) k () = k e := nrfl rfl
theorem v_asg {g : MG} : sAsg g m env = (m env).bindL (fun d e => optE (g d e) (fun e' => .ok .nx e') ()) () := by simp only [R.bindL, R.bind0L]; unfold sAsg optE; congr 1
theorem v_gN : gN i d env = some (env.set i (some d)) := nrfl rfl
theorem v_gT {gs : MGs} {ds : List D} : gT gs (.tup ds) env = gs ds env := nrfl rfl
theorem v_gsN : gsNil [] env = some env := nrfl rfl
theorem v_gsC {g : MG} {gs : MGs} {ds : List D} : gsCons g gs (d :: ds) env = (g d env).bind (gs ds) := nrfl rfl
def k2 {α : Type} (ds : List D) (k : D → D → R α) (_ : Tg k) : R α := match ds with | [d1, d2] => k d1 d2 | _ => .no
theorem k2_s {α : Type} {d1 d2 : D} {k : D → D → R α} : k2 [d1, d2] k () = k d1 d2 := nrfl rfl
def k3 {α : Type} (ds : List D) (k : D → D → D → R α) (_ : Tg k) : R α := match ds with | [d1, d2, d3] => k d1 d2 d3 | _ => .no
theorem k3_s {α : Type} {d1 d2 d3 : D} {k : D → D → D → R α} : k3 [d1, d2, d3] k () = k d1 d2 d3 := nrfl rfl
theorem v_par : sPar i j ms env = (ms env).bindL (fun ds e => k2 ds (fun d1 d2 => .ok .nx ((e.set i (some d1)).set j (some d2))) ()) () := by simp only [R.bindL, R.bind0L]; unfold sPar k2; rfl
theorem v_par3 {k : Nat} : sPar3 i j k ms env = (ms env).bindL (fun ds e => k3 ds (fun d1 d2 d3 => .ok .nx (((e.set i (some d1)).set j (some d2)).set k (some d3))) ()) () := by simp only [R.bindL, R.bind0L]; unfold sPar3 k3; rfl
theorem v_aug {f : D → D → Option D} : sAug i f m env = getR env[i]? (fun d => (m env).bindL (fun d' e => liftK (f d d') (fun r => .ok .nx (e.set i (some r))) ()) ()) () := by
  simp only [R.bindL, R.bind0L]
  unfold sAug getR
  rcases env[i]? with _ | _ | d
  · rfl
  · rfl
  · rfl
theorem v_put {p : Plc} : sPut p m n env = (m env).bindL (fun d e => liftK (getP e p) (fun _ => (n e).bindL (fun i e => liftK (getP e p) (fun c => liftK (fSet c i d) (fun c' => .ok .nx (setP e p c')) ()) ()) ()) ()) () := by
  simp only [R.bindL, R.bind0L]
  unfold sPut liftK; congr 1
def insK {α : Type} (o : Option (Option D)) (k : String → List (String × D) → R α) (_ : Tg k) : R α := match o with | some (some (.ins true c fs)) => k c fs | _ => .no
theorem insK_s {α : Type} {c : String} {fs : List (String × D)} {k : String → List (String × D) → R α} : insK (some (some (.ins true c fs))) k () = k c fs := nrfl rfl
theorem v_sfld {cs : List String} {f : String} : sFldD i cs f m env = (m env).bindL (fun d e => insK e[i]? (fun c fs => R.ite (cs.contains c && decide (fs.length < 1000)) (fun _ => .ok .nx (e.set i (some (.ins true c (putD f d fs))))) (fun _ => .no) () ()) ()) () := by
  simp only [R.bindL, R.bind0L]
  unfold sFldD insK; congr 1; funext d e
  rcases e[i]? with _ | _ | d
  · rfl
  · rfl
  · cases d with
    | ins o c fs =>
      cases o
      · rfl
      · simp only; cases hb : (cs.contains c && decide (fs.length < 1000)) <;> rfl
    | _ => rfl
theorem v_for {it : MI} {g : MG} : sFor it g mS env = (it env).bindL (fun ds e => forL g mS ds e) () := nrfl rfl
def optL {α : Type} (o : Option (List D)) (k : List D → R α) (_ : Tg k) : R α := match o with | some e => k e | none => .no
theorem optL_s {α : Type} {e : List D} {k : List D → R α} : optL (some e) k () = k e := nrfl rfl
theorem v_iSeq : iSeq m env = (m env).bindL (fun d e => optL (seqD (fz d)) (fun ds => .ok ds e) ()) () := by simp only [R.bindL, R.bind0L]; unfold iSeq optL; congr 1
theorem v_iOf {f : List D → Option (List D)} : iOf f ms env = (ms env).bindL (fun ds e => optL (f ds) (fun r => .ok r e) ()) () := by simp only [R.bindL, R.bind0L]; unfold iOf optL; congr 1
def strK {α : Type} (d : D) (k : Str → R α) (_ : Tg k) : R α := match d with | .str x => k x | _ => .no
theorem strK_s {α : Type} {x : Str} {k : Str → R α} : strK (.str x) k () = k x := nrfl rfl
theorem v_iStr : iStrD m env = (m env).bindL (fun d e => strK d (fun x => .ok (x.cps.toList.map fun c => .str ⟨#[c]⟩) e) ()) () := by simp only [R.bindL, R.bind0L]; unfold iStrD strK; rfl
theorem v_lc {it : MI} {g : MG} {ws : List Nat} : eLc it g c m ws env = (it env).bindL (fun ds e => (lcF g c m ws ds [] (wipeE e ws)).bind0L (fun r e => .ok (.lst true r) e) ()) () := nrfl rfl
def mlK {α : Type} (o : Option D) (k : List D → R α) (_ : Tg k) : R α := match o with | some (.lst true ds) => k ds | _ => .no
theorem mlK_s {α : Type} {ds : List D} {k : List D → R α} : mlK (some (.lst true ds)) k () = k ds := nrfl rfl
def optF {α : Type} (o : Option (D × List D)) (k : D → List D → R α) (_ : Tg k) : R α := match o with | some p => k p.1 p.2 | none => .no
theorem optF_s {α : Type} {d : D} {ds : List D} {k : D → List D → R α} : optF (some (d, ds)) k () = k d ds := nrfl rfl
theorem v_mList {p : Plc} {f : List D → List D → Option (D × List D)} : mList p ms f env = mlK (getP env p) (fun _ => (ms env).bindL (fun as e => mlK (getP e p) (fun ds => optF (f ds as) (fun d ds' => .ok d (setP e p (.lst true ds'))) ()) ()) ()) () := by
  simp only [R.bindL, R.bind0L]
  unfold mList mlK optF
  rcases getP env p with _ | d
  · rfl
  · cases d with
    | lst o ds =>
      cases o
      · rfl
      · simp only
        congr 1; funext as e
        rcases getP e p with _ | d
        · rfl
        · cases d with
          | lst o ds =>
            cases o
            · rfl
            · simp only; rcases f ds as with _ | ⟨x, y⟩ <;> rfl
          | _ => rfl
    | _ => rfl
def joinO (o : Option (Option D)) : Option D := match o with | some (some d) => some d | _ => none
theorem joinO_s {d : D} : joinO (some (some d)) = some d := nrfl rfl
theorem v_gp {i : Nat} : getP env (i, none) = joinO env[i]? := nrfl rfl
theorem v_gq {i : Nat} : setP env (i, none) d = env.set i (some d) := nrfl rfl
def fldO (o : Option (Option D)) (cs : List String) (f : String) : Option D := match o with | some (some (.ins true c fs)) => if cs.contains c then fs.lookup f else none | _ => none
theorem fldO_s {c : String} {fs : List (String × D)} {cs : List String} {f : String} : fldO (some (some (.ins true c fs))) cs f = if cs.contains c then fs.lookup f else none := nrfl rfl
theorem v_gf {i : Nat} {cs : List String} {f : String} : getP env (i, some (cs, f)) = fldO env[i]? cs f := nrfl rfl
def setO (o : Option (Option D)) (env : Env) (i : Nat) (f : String) (e : D) : Env := match o with | some (some (.ins o c fs)) => env.set i (some (.ins o c (putD f e fs))) | _ => env
theorem setO_s {o : Bool} {c : String} {fs : List (String × D)} {i : Nat} {f : String} {e : D} : setO (some (some (.ins o c fs))) env i f e = env.set i (some (.ins o c (putD f e fs))) := nrfl rfl
theorem v_gs {i : Nat} {cs : List String} {f : String} {e : D} : setP env (i, some (cs, f)) e = setO env[i]? env i f e := nrfl rfl
/-! calls -/
def Rf.back (r : Rf) (as : List Arg) (e2 : Env) : R D := match r with
  | .ok d ios => optE (backA as ios e2) (fun e3 => .ok d e3) ()
  | .ex x ios => (match backA as ios e2 with | some e3 => .ex x e3 | none => .no)
  | .no => .no
theorem Rf.back_ok {d : D} {ios : List D} {as : List Arg} {e2 : Env} : Rf.back (.ok d ios) as e2 = optE (backA as ios e2) (fun e3 => .ok d e3) () := nrfl rfl
def optP {α : Type} (o : Option (List D × Env)) (k : List D → Env → R α) (_ : Tg k) : R α := match o with | some p => k p.1 p.2 | none => .no
theorem optP_s {α : Type} {p : List D × Env} {k : List D → Env → R α} : optP (some p) k () = k p.1 p.2 := nrfl rfl
theorem v_callF {f : Fun} {as : List Arg} {mss : List (Option D)} : callF f as mss env = optP (fillA as mss env) (fun ds e2 => (f ds).back as e2) () := by
  unfold callF optP Rf.back
  cases fillA as mss env with
  | none => rfl
  | some p =>
    obtain ⟨ds, e2⟩ := p
    simp only
    cases f ds with
    | ok d ios => simp only; unfold optE; cases backA as ios e2 <;> rfl
    | ex x ios => rfl
    | no => rfl
theorem v_call {f : Fun} {as : List Arg} : eCall f as env = (eArgs as env).bindL (fun mss e => callF f as mss e) () := nrfl rfl
theorem v_aN : eArgs [] env = .ok [] env := nrfl rfl
theorem v_aE {as : List Arg} : eArgs (.e m :: as) env = (m env).bindL (fun d e => (eArgs as e).bindL (fun r e => .ok (some d :: r) e) ()) () := nrfl rfl
theorem v_aI {as : List Arg} : eArgs (.io j :: as) env = getR env[j]? (fun _ => (eArgs as env).bindL (fun r e => .ok (none :: r) e) ()) () := by
  simp only [R.bindL, R.bind0L]
  rw [eArgs]; unfold getR; rfl
theorem v_fN {mss : List (Option D)} : fillA [] mss env = some ([], env) := by cases mss <;> rfl
theorem v_fE {as : List Arg} {mss : List (Option D)} : fillA (.e m :: as) (some d :: mss) env = (fillA as mss env).map fun r => (d :: r.1, r.2) := by rw [fillA]
def optD {α : Type} (o : Option (Option D)) (k : D → Option α) (_ : Tg k) : Option α := match o with | some (some d) => k d | _ => none
theorem optD_s {α : Type} {d : D} {k : D → Option α} : optD (some (some d)) k () = k d := nrfl rfl
theorem v_fI {as : List Arg} {mss : List (Option D)} {o : Option D} : fillA (.io j :: as) (o :: mss) env = optD env[j]? (fun d => (fillA as mss (env.set j none)).map fun r => (d :: r.1, r.2)) () := by
  rw [fillA]
  unfold optD
  rcases env[j]? with _ | _ | d <;> rfl
theorem v_kN : backA [] [] env = some env := by rw [backA]
theorem v_kE {as : List Arg} {ios : List D} : backA (.e m :: as) ios env = backA as ios env := by rw [backA]
theorem v_kI {as : List Arg} {ios : List D} : backA (.io j :: as) (d :: ios) env = backA as ios (env.set j (some d)) := by rw [backA]
theorem v_methE {cn mn : String} {f : Fun} {as : List Arg} : eMeth cn mn f (.e m) as env = (m env).bindL (fun d e => R.ite (recv cn mn d) (fun _ => (eArgs as e).bindL (fun ms e => callF f (.e m :: as) (some d :: ms) e) ()) (fun _ => .no) () ()) () := by
  simp only [R.bindL, R.bind0L]
  show ((m env).bind fun d e => if recv cn mn d then (eArgs as e).bind fun ms e => callF f (.e m :: as) (some d :: ms) e else .no) = _
  congr 1; funext d e; cases h : recv cn mn d <;> rfl
theorem v_methI {cn mn : String} {f : Fun} {as : List Arg} : eMeth cn mn f (.io j) as env = getR env[j]? (fun d => R.ite (recv cn mn d) (fun _ => (eArgs as env).bindL (fun ms e => callF f (.io j :: as) (none :: ms) e) ()) (fun _ => .no) () ()) () := by
  simp only [R.bindL, R.bind0L]
  unfold eMeth getR
  simp only
  rcases env[j]? with _ | _ | d
  · rfl
  · rfl
  · simp only; cases h : recv cn mn d <;> rfl
def Rf.newB (r : Rf) (as : List Arg) (e2 : Env) : R D := match r with
    | .ok .non (self :: ios) => optE (backA as ios e2) (fun e3 => .ok self e3) ()
    | .ex x (_ :: ios) => (match backA as ios e2 with | some e3 => .ex x e3 | none => .no)
    | _ => .no
theorem Rf.newB_ok {s : D} {ios : List D} {as : List Arg} {e2 : Env} : Rf.newB (.ok .non (s :: ios)) as e2 = optE (backA as ios e2) (fun e3 => .ok s e3) () := nrfl rfl
theorem v_new {cn : String} {f : Fun} {as : List Arg} : eNew cn f as env = (eArgs as env).bindL (fun mss e => optP (fillA as mss e) (fun ds e2 => (f (.ins true cn [] :: ds)).newB as e2) ()) () := by
  simp only [R.bindL, R.bind0L]
  unfold eNew
  congr 1
  funext mss e
  unfold callN optP Rf.newB
  cases fillA as mss e with
  | none => rfl
  | some p =>
    obtain ⟨ds, e2⟩ := p
    simp only
    cases f (.ins true cn [] :: ds) with
    | ok d ios =>
      cases d <;> cases ios <;> first | rfl | (simp only; unfold optE; cases backA as _ e2 <;> rfl)
    | ex x ios => cases ios <;> rfl
    | no => rfl
/-- what a def gives -/
def fin (io : List Bool) (r : R Fl) : Rf := match r with
  | .ok (.rt d) env => (match allS (pick io env) with | some ios => .ok d ios | none => .no)
  | .ok .nx env => (match allS (pick io env) with | some ios => .ok .non ios | none => .no)
  | .ok _ _ => .no
  | .ex x env => (match allS (pick io env) with | some ios => .ex x ios | none => .no)
  | .no => .no
theorem v_fn {n : Nat} {io : List Bool} {ds : List D} : fnOf n io mS ds = fin io (mS (ds.map some ++ List.replicate n none)) := nrfl rfl
def optR (o : Option (List D)) (k : List D → Rf) (_ : Tg k) : Rf := match o with | some e => k e | none => .no
theorem optR_s {e : List D} {k : List D → Rf} : optR (some e) k () = k e := nrfl rfl
theorem fin_rt {io : List Bool} : fin io (.ok (.rt d) env) = optR (allS (pick io env)) (fun ios => .ok d ios) () := by unfold fin optR; rfl
theorem fin_nx {io : List Bool} : fin io (.ok .nx env) = optR (allS (pick io env)) (fun ios => .ok .non ios) () := by unfold fin optR; rfl
theorem al_n : allS [] = some [] := nrfl rfl
theorem al_c {r : Env} : allS (some d :: r) = (allS r).map (d :: ·) := nrfl rfl
theorem pi_t {α : Type} {ms : List Bool} {v : α} {vs : List α} : pick (true :: ms) (v :: vs) = v :: pick ms vs := nrfl rfl
theorem pi_f {α : Type} {ms : List Bool} {v : α} {vs : List α} : pick (false :: ms) (v :: vs) = pick ms vs := nrfl rfl
theorem pi_n {α : Type} {vs : List α} : pick [] vs = [] := by cases vs <;> rfl
theorem wi_n : wipeE env [] = env := nrfl rfl
theorem wi_c {v : Nat} {vs : List Nat} : wipeE env (v :: vs) = (wipeE env vs).set v none := nrfl rfl
end
theorem at0 {α : Type} {a : α} {l : List α} : atI (a :: l) 0 = some a := atI_nat (j := 0) rfl
theorem at1 {α : Type} {a b : α} {l : List α} : atI (a :: b :: l) 1 = some b := atI_nat (j := 1) rfl
theorem at2 {α : Type} {a b c : α} {l : List α} : atI (a :: b :: c :: l) 2 = some c := atI_nat (j := 2) rfl
theorem at3 {α : Type} {a b c d : α} {l : List α} : atI (a :: b :: c :: d :: l) 3 = some d := atI_nat (j := 3) rfl
theorem ix0 {n : Nat} : ixN (n + 1) 0 = some 0 := by unfold ixN; rw [if_pos (by omega), if_pos (by omega)]; rfl
theorem ix1 {n : Nat} : ixN (n + 2) 1 = some 1 := by unfold ixN; rw [if_pos (by omega), if_pos (by omega)]; rfl
theorem ix2 {n : Nat} : ixN (n + 3) 2 = some 2 := by unfold ixN; rw [if_pos (by omega), if_pos (by omega)]; rfl
theorem set0 {a d : D} {l : List D} : fSet (.lst true (a :: l)) (.int 0) d = some (.lst true (d :: l)) := by
  rw [fSet, List.length_cons, ix0]; rfl
theorem set1 {a b d : D} {l : List D} : fSet (.lst true (a :: b :: l)) (.int 1) d = some (.lst true (a :: d :: l)) := by
  rw [fSet, List.length_cons, List.length_cons, ix1]; rfl
theorem set2 {a b c d : D} {l : List D} : fSet (.lst true (a :: b :: c :: l)) (.int 2) d = some (.lst true (a :: b :: d :: l)) := by
  rw [fSet, List.length_cons, List.length_cons, List.length_cons, ix2]; rfl
theorem pow_60 : fPow (.int 10) (.int 60) = some (.int (10 ^ 60)) := by
  unfold fPow fI2
  simp only
  rw [if_pos (by decide)]; rfl
theorem pow_18 : fPow (.int 10) (.int 18) = some (.int (10 ^ 18)) := by
  unfold fPow fI2
  simp only
  rw [if_pos (by decide)]; rfl
theorem ix_t {ds : List D} {i : Int} : fIx (.tup ds) (.int i) = atI ds i := nrfl rfl
theorem ix_l {ds : List D} {i : Int} {o : Bool} : fIx (.lst o ds) (.int i) = atI ds i := nrfl rfl
theorem ix_s {ds : List D} {i : Int} : fIx (.scr ds) (.int i) = atI ds i := nrfl rfl
theorem mul_i {a b : Int} : fMul (.int a) (.int b) = if mulOk a b then some (.int (a * b)) else none := nrfl rfl
theorem len_t {ds : List D} : fLen [.tup ds] = some (.int ds.length) := nrfl rfl
theorem len_l {ds : List D} {o : Bool} : fLen [.lst o ds] = some (.int ds.length) := nrfl rfl
theorem len_s {ds : List D} : fLen [.scr ds] = some (.int ds.length) := nrfl rfl
theorem sz0 : ([] : List D).length ≤ sizeLine := by
  simp only [List.length_cons, List.length_nil]; decide
theorem sz1 {a : D} : ([a] : List D).length ≤ sizeLine := by
  simp only [List.length_cons, List.length_nil]; decide
theorem sz2 {a b : D} : ([a, b] : List D).length ≤ sizeLine := by
  simp only [List.length_cons, List.length_nil]; decide
theorem sz3 {a b c : D} : ([a, b, c] : List D).length ≤ sizeLine := by
  simp only [List.length_cons, List.length_nil]; decide
theorem sz4 {a b c d : D} : ([a, b, c, d] : List D).length ≤ sizeLine := by
  simp only [List.length_cons, List.length_nil]; decide
theorem sz5 {a b c d e : D} : ([a, b, c, d, e] : List D).length ≤ sizeLine := by
  simp only [List.length_cons, List.length_nil]; decide
theorem sz6 {a b c d e f : D} : ([a, b, c, d, e, f] : List D).length ≤ sizeLine := by
  simp only [List.length_cons, List.length_nil]; decide
theorem sz7 {a b c d e f g : D} : ([a, b, c, d, e, f, g] : List D).length ≤ sizeLine := by
  simp only [List.length_cons, List.length_nil]; decide
theorem sz8 {a b c d e f g h : D} : ([a, b, c, d, e, f, g, h] : List D).length ≤ sizeLine := by
  simp only [List.length_cons, List.length_nil]; decide
theorem isa_isInt_non  : fIsa Kd.isInt .non = some (.bl false) := nrfl rfl
theorem isa_isInt_bl {b : Bool} : fIsa Kd.isInt (.bl b) = some (.bl true) := nrfl rfl
theorem isa_isInt_int {i : Int} : fIsa Kd.isInt (.int i) = some (.bl true) := nrfl rfl
theorem isa_isInt_str {x : Str} : fIsa Kd.isInt (.str x) = some (.bl false) := nrfl rfl
theorem isa_isInt_tup {ds : List D} : fIsa Kd.isInt (.tup ds) = some (.bl false) := nrfl rfl
theorem isa_isInt_lst {o : Bool} {ds : List D} : fIsa Kd.isInt (.lst o ds) = some (.bl false) := nrfl rfl
theorem isa_isInt_scr {ds : List D} : fIsa Kd.isInt (.scr ds) = some (.bl false) := nrfl rfl
theorem isa_isInt_dct {o : Bool} {ds : List (D × D)} : fIsa Kd.isInt (.dct o ds) = some (.bl false) := nrfl rfl
theorem isa_isBool_non  : fIsa Kd.isBool .non = some (.bl false) := nrfl rfl
theorem isa_isBool_bl {b : Bool} : fIsa Kd.isBool (.bl b) = some (.bl true) := nrfl rfl
theorem isa_isBool_int {i : Int} : fIsa Kd.isBool (.int i) = some (.bl false) := nrfl rfl
theorem isa_isBool_str {x : Str} : fIsa Kd.isBool (.str x) = some (.bl false) := nrfl rfl
theorem isa_isBool_tup {ds : List D} : fIsa Kd.isBool (.tup ds) = some (.bl false) := nrfl rfl
theorem isa_isBool_lst {o : Bool} {ds : List D} : fIsa Kd.isBool (.lst o ds) = some (.bl false) := nrfl rfl
theorem isa_isBool_scr {ds : List D} : fIsa Kd.isBool (.scr ds) = some (.bl false) := nrfl rfl
theorem isa_isBool_dct {o : Bool} {ds : List (D × D)} : fIsa Kd.isBool (.dct o ds) = some (.bl false) := nrfl rfl
theorem isa_isStr_non  : fIsa Kd.isStr .non = some (.bl false) := nrfl rfl
theorem isa_isStr_bl {b : Bool} : fIsa Kd.isStr (.bl b) = some (.bl false) := nrfl rfl
theorem isa_isStr_int {i : Int} : fIsa Kd.isStr (.int i) = some (.bl false) := nrfl rfl
theorem isa_isStr_str {x : Str} : fIsa Kd.isStr (.str x) = some (.bl true) := nrfl rfl
theorem isa_isStr_tup {ds : List D} : fIsa Kd.isStr (.tup ds) = some (.bl false) := nrfl rfl
theorem isa_isStr_lst {o : Bool} {ds : List D} : fIsa Kd.isStr (.lst o ds) = some (.bl false) := nrfl rfl
theorem isa_isStr_scr {ds : List D} : fIsa Kd.isStr (.scr ds) = some (.bl false) := nrfl rfl
theorem isa_isStr_dct {o : Bool} {ds : List (D × D)} : fIsa Kd.isStr (.dct o ds) = some (.bl false) := nrfl rfl
theorem isa_isTuple_non  : fIsa Kd.isTuple .non = some (.bl false) := nrfl rfl
theorem isa_isTuple_bl {b : Bool} : fIsa Kd.isTuple (.bl b) = some (.bl false) := nrfl rfl
theorem isa_isTuple_int {i : Int} : fIsa Kd.isTuple (.int i) = some (.bl false) := nrfl rfl
theorem isa_isTuple_str {x : Str} : fIsa Kd.isTuple (.str x) = some (.bl false) := nrfl rfl
theorem isa_isTuple_tup {ds : List D} : fIsa Kd.isTuple (.tup ds) = some (.bl true) := nrfl rfl
theorem isa_isTuple_lst {o : Bool} {ds : List D} : fIsa Kd.isTuple (.lst o ds) = some (.bl false) := nrfl rfl
theorem isa_isTuple_scr {ds : List D} : fIsa Kd.isTuple (.scr ds) = some (.bl false) := nrfl rfl
theorem isa_isTuple_dct {o : Bool} {ds : List (D × D)} : fIsa Kd.isTuple (.dct o ds) = some (.bl false) := nrfl rfl
theorem isa_isList_non  : fIsa Kd.isList .non = some (.bl false) := nrfl rfl
theorem isa_isList_bl {b : Bool} : fIsa Kd.isList (.bl b) = some (.bl false) := nrfl rfl
theorem isa_isList_int {i : Int} : fIsa Kd.isList (.int i) = some (.bl false) := nrfl rfl
theorem isa_isList_str {x : Str} : fIsa Kd.isList (.str x) = some (.bl false) := nrfl rfl
theorem isa_isList_tup {ds : List D} : fIsa Kd.isList (.tup ds) = some (.bl false) := nrfl rfl
theorem isa_isList_lst {o : Bool} {ds : List D} : fIsa Kd.isList (.lst o ds) = some (.bl true) := nrfl rfl
theorem isa_isList_scr {ds : List D} : fIsa Kd.isList (.scr ds) = some (.bl true) := nrfl rfl
theorem isa_isList_dct {o : Bool} {ds : List (D × D)} : fIsa Kd.isList (.dct o ds) = some (.bl false) := nrfl rfl
theorem isa_isDict_non  : fIsa Kd.isDict .non = some (.bl false) := nrfl rfl
theorem isa_isDict_bl {b : Bool} : fIsa Kd.isDict (.bl b) = some (.bl false) := nrfl rfl
theorem isa_isDict_int {i : Int} : fIsa Kd.isDict (.int i) = some (.bl false) := nrfl rfl
theorem isa_isDict_str {x : Str} : fIsa Kd.isDict (.str x) = some (.bl false) := nrfl rfl
theorem isa_isDict_tup {ds : List D} : fIsa Kd.isDict (.tup ds) = some (.bl false) := nrfl rfl
theorem isa_isDict_lst {o : Bool} {ds : List D} : fIsa Kd.isDict (.lst o ds) = some (.bl false) := nrfl rfl
theorem isa_isDict_scr {ds : List D} : fIsa Kd.isDict (.scr ds) = some (.bl false) := nrfl rfl
theorem isa_isDict_dct {o : Bool} {ds : List (D × D)} : fIsa Kd.isDict (.dct o ds) = some (.bl true) := nrfl rfl
theorem eq_i {a b : Int} : fEq2 (.int a) (.int b) = some (.bl (decide (a = b))) := nrfl rfl
theorem ne_i {a b : Int} : fNe2 (.int a) (.int b) = some (.bl (!decide (a = b))) := nrfl rfl
theorem eq_s {a b : Str} : fEq2 (.str a) (.str b) = some (.bl (decide (a = b))) := nrfl rfl
theorem ne_s {a b : Str} : fNe2 (.str a) (.str b) = some (.bl (!decide (a = b))) := nrfl rfl
theorem sl_l {o : Bool} {ds : List D} {a b : Option Int} : fSl (.lst o ds) a b = if fznL ds then some (.lst true (cutA ds a b)) else none := nrfl rfl
theorem sl_t {ds : List D} {a b : Option Int} : fSl (.tup ds) a b = some (.tup (cutA ds a b)) := nrfl rfl
theorem fz_l {o : Bool} {ds : List D} : fz (.lst o ds) = .lst false (fzL ds) := by rw [fz]
theorem fz_t {ds : List D} : fz (.tup ds) = .tup (fzL ds) := by rw [fz]
theorem fz_d {o : Bool} {ds : List (D × D)} : fz (.dct o ds) = .dct false (fzK ds) := by rw [fz]
theorem fz_i {o : Bool} {c : String} {ds : List (String × D)} : fz (.ins o c ds) = .ins false c (fzF ds) := by rw [fz]
theorem seq_t {ds : List D} : seqD (.tup ds) = some ds := nrfl rfl
theorem seq_l {o : Bool} {ds : List D} : seqD (.lst o ds) = some ds := nrfl rfl
theorem zip_l {a b : List D} : zipD [.lst false a, .lst false b] = some (List.zipWith (fun x y => .tup [x, y]) a b) := nrfl rfl
theorem zip_t {a b : List D} : zipD [.tup a, .tup b] = some (List.zipWith (fun x y => .tup [x, y]) a b) := nrfl rfl
theorem enum_l {a : List D} : enumD [.lst false a] = some ((List.range a.length).zipWith (fun (i : Nat) x => .tup [.int (i : Int), x]) a) := nrfl rfl
theorem rng1_i {j : Int} (h0 : -(2 ^ 62) ≤ j) (h1 : j < 2 ^ 62) : rng1 [.int j] = some ((List.range j.toNat).map fun k : Nat => .int (k : Int)) := if_pos ⟨h0, h1⟩
theorem rng1_n {j : Nat} (h1 : j < 2 ^ 62) : rng1 [.int (j : Int)] = some ((List.range j).map fun k : Nat => .int (k : Int)) := by
  rw [rng1_i (by omega) (by omega)]; rfl
theorem tuple_l {o : Bool} {ds : List D} : fTuple [.lst o ds] = if fznL ds then some (.tup ds) else none := nrfl rfl
theorem tuple_t {ds : List D} : fTuple [.tup ds] = some (.tup ds) := nrfl rfl
theorem list_l {o : Bool} {ds : List D} : fList [.lst o ds] = if fznL ds then some (.lst true ds) else none := nrfl rfl
theorem list_t {ds : List D} : fList [.tup ds] = if fznL ds then some (.lst true ds) else none := nrfl rfl
theorem pk_all : ∀ {io : List Bool} {e : Env}, (io.all fun b => !b) = true → allS (pick io e) = some []
  | [], e, _ => by cases e <;> rfl
  | true :: io, e, h => by simp at h
  | false :: io, [], h => rfl
  | false :: io, a :: e, h => by
    rw [pick]
    exact pk_all (by simpa using h)
theorem pk1 {e : Env} : allS (pick [false] e) = some [] := pk_all rfl
theorem pk2 {e : Env} : allS (pick [false, false] e) = some [] := pk_all rfl
theorem pk3 {e : Env} : allS (pick [false, false, false] e) = some [] := pk_all rfl
theorem pk4 {e : Env} : allS (pick [false, false, false, false] e) = some [] := pk_all rfl
theorem fzL_n : fzL [] = [] := by rw [fzL]
theorem fzL_c {d : D} {ds : List D} : fzL (d :: ds) = fz d :: fzL ds := by rw [fzL]
theorem fz_int {i : Int} : fz (.int i) = .int i := by rw [fz]
theorem fz_bl {i : Bool} : fz (.bl i) = .bl i := by rw [fz]
theorem fz_str {i : Str} : fz (.str i) = .str i := by rw [fz]
theorem fz_non : fz .non = .non := by rw [fz]
theorem seq_nx {s r : MS} {env e : Env} {x : R Fl} (h : s env = .ok .nx e) (h2 : r e = x) : sSeq s r env = x := by
  rw [v_seq, h, b_bo, Fl.k_nx, h2]
theorem fin_seq {io : List Bool} {s r : MS} {env e : Env} {x : Rf} (h : s env = .ok .nx e) (h2 : fin io (r e) = x) : fin io (sSeq s r env) = x := by
  rw [seq_nx h rfl, h2]
theorem add_i {a b : Int} : fAdd (.int a) (.int b) = some (.int (a + b)) := nrfl rfl
theorem sub_i {a b : Int} : fSub (.int a) (.int b) = some (.int (a - b)) := nrfl rfl
theorem mod_i {a b : Int} : fMod (.int a) (.int b) = if 0 < b then some (.int (a % b)) else none := nrfl rfl
theorem div_i {a b : Int} : fDiv (.int a) (.int b) = if 0 < b ∧ b.natAbs.log2 < 9000 then some (.int (a / b)) else none := nrfl rfl
theorem lt_i {a b : Int} : fLt (.int a) (.int b) = some (.bl (decide (a < b))) := nrfl rfl
theorem le_i {a b : Int} : fLe (.int a) (.int b) = some (.bl (decide (a ≤ b))) := nrfl rfl
theorem gt_i {a b : Int} : fGt (.int a) (.int b) = some (.bl (decide (b < a))) := nrfl rfl
theorem ge_i {a b : Int} : fGe (.int a) (.int b) = some (.bl (decide (b ≤ a))) := nrfl rfl
theorem abs_i {a : Int} : fAbs [.int a] = some (.int (if a < 0 then -a else a)) := nrfl rfl
theorem int_i {a : Int} : fInt [.int a] = some (.int a) := nrfl rfl
theorem int_b {a : Bool} : fInt [.bl a] = some (.int (if a then 1 else 0)) := nrfl rfl
theorem neg_i {a : Int} : fNeg (.int a) = some (.int (-a)) := nrfl rfl
theorem fzn_1 : fzn .non = true := nrfl rfl
theorem fzn_2 {b : Bool} : fzn (.bl b) = true := nrfl rfl
theorem fzn_3 {b : Int} : fzn (.int b) = true := nrfl rfl
theorem fzn_4 {b : Str} : fzn (.str b) = true := nrfl rfl
theorem fzn_5 {ds : List D} : fzn (.tup ds) = fznL ds := by rw [fzn]
theorem fzn_6 {o : Bool} {ds : List D} : fzn (.lst o ds) = (!o && fznL ds) := by rw [fzn]
theorem fzn_7 {o : Bool} {ds : List (D × D)} : fzn (.dct o ds) = (!o && fznK ds) := by rw [fzn]
theorem fzn_8 {o : Bool} {c : String} {ds : List (String × D)} : fzn (.ins o c ds) = (!o && fznF ds) := by rw [fzn]
theorem fzn_9 {ds : List D} : fzn (.set ds) = true := by rw [fzn]
theorem fzn_s {ds : List D} : fzn (.scr ds) = fznL ds := by rw [fzn]
theorem fznL_n : fznL [] = true := nrfl rfl
theorem fznL_c {d : D} {ds : List D} : fznL (d :: ds) = (fzn d && fznL ds) := by rw [fznL]
theorem fznK_n : fznK [] = true := nrfl rfl
theorem fznK_c {k d : D} {ds : List (D × D)} : fznK ((k, d) :: ds) = (fzn d && fznK ds) := by rw [fznK]
theorem fznF_n : fznF [] = true := nrfl rfl
theorem fznF_c {k : String} {d : D} {ds : List (String × D)} : fznF ((k, d) :: ds) = (fzn d && fznF ds) := by rw [fznF]
theorem is_n : fIs .non .non = some (.bl true) := rfl
theorem nis_n : fNis .non .non = some (.bl false) := rfl
theorem is_i {i : Int} : fIs (.int i) .non = some (.bl false) := rfl
theorem nis_i {i : Int} : fNis (.int i) .non = some (.bl true) := rfl
theorem is_t {i : List D} : fIs (.tup i) .non = some (.bl false) := rfl
theorem nis_t {i : List D} : fNis (.tup i) .non = some (.bl true) := rfl
theorem putD_n {f : String} {d : D} : putD f d [] = [(f, d)] := by rw [putD]
theorem putD_c {f g : String} {d x : D} {r : List (String × D)} : putD f d ((g, x) :: r) = if g = f then (g, d) :: r else (g, x) :: putD f d r := by rw [putD]
end Mi

set_option maxHeartbeats 4000000
namespace Mi
open PySem PySem.Spec PyProof.Rows L2 RZ Ov PpSet

/-! ### loops -/
theorem for_inv {g : MG} {m : MS} : ∀ (ds : List D) (Iv : Nat → Env → Prop), (∀ i d env, ds[i]? = some d → Iv i env → ∃ e e', g d env = some e ∧ (m e = .ok .nx e' ∨ m e = .ok .ct e') ∧ Iv (i + 1) e') →
    ∀ {env : Env}, Iv 0 env → ∃ e', forL g m ds env = .ok .nx e' ∧ Iv ds.length e'
  | [], Iv, _, env, h0 => ⟨env, rfl, h0⟩
  | d :: ds, Iv, h, env, h0 => by
    obtain ⟨e, e', h1, h2, h3⟩ := h 0 d env rfl h0
    obtain ⟨e2, k1, k2⟩ := for_inv ds (fun i => Iv (i + 1)) (fun i d env hd hi => h (i + 1) d env hd hi) h3
    refine ⟨e2, ?_, k2⟩
    rw [forL, h1]
    rcases h2 with h2 | h2
    · simp only [h2, v_bo, k1]
    · simp only [h2, v_bo, k1]
theorem for_cons {g : MG} {m : MS} {d : D} {ds : List D} {env e e' : Env} (h : g d env = some e) (h2 : m e = .ok .nx e') : forL g m (d :: ds) env = forL g m ds e' := by
  rw [forL, h]
  simp only [h2, v_bo]
theorem for_nil {g : MG} {m : MS} {env : Env} : forL g m [] env = .ok .nx env := rfl
theorem for_ret {g : MG} {m : MS} {d r : D} {ds : List D} {env e e' : Env} (h : g d env = some e) (h2 : m e = .ok (.rt r) e') : forL g m (d :: ds) env = .ok (.rt r) e' := by
  rw [forL, h]
  simp only [h2, v_bo]
/-- by a state -/
theorem for_fold {α : Type} {g : MG} {m : MS} (enc : α → Env) (step : α → D → α) : ∀ (ds : List D) (a : α), (∀ a d, d ∈ ds → ∃ e, g d (enc a) = some e ∧ m e = .ok .nx (enc (step a d))) → forL g m ds (enc a) = .ok .nx (enc (ds.foldl step a))
  | [], a, _ => rfl
  | d :: ds, a, h => by
    obtain ⟨e, h1, h2⟩ := h a d (List.mem_cons_self ..)
    rw [for_cons h1 h2, for_fold enc step ds _ fun a d hd => h a d (List.mem_cons_of_mem _ hd)]
    rfl
/-- a comprehension that keeps its names -/
theorem lc_pure {g : MG} {c : MB} {m : ME} {ws : List Nat} {env : Env} (y : D → D) : ∀ (ds acc : List D), (∀ d ∈ ds, ∃ e e1 e2, g d env = some e ∧ c e = .ok true e1 ∧ m e1 = .ok (y d) e2 ∧ wipeE e2 ws = env) → acc.length + ds.length ≤ sizeLine →
    lcF g c m ws ds acc env = .ok (acc ++ ds.map y) env
  | [], acc, _, _ => by simp [lcF]
  | d :: ds, acc, h, hl => by
    obtain ⟨e, e1, e2, h1, h2, h3, h4⟩ := h d (List.mem_cons_self ..)
    rw [lcF, h1]
    simp only [h2, v_b0, if_true, h3]
    rw [if_pos (by simp at hl; omega), h4, lc_pure y ds (acc ++ [y d]) (fun d hd => h d (List.mem_cons_of_mem _ hd)) (by simp at hl ⊢; omega)]
    simp
theorem lc_filter {g : MG} {c : MB} {m : ME} {ws : List Nat} {env : Env} (q : D → Bool) (y : D → D) : ∀ (ds acc : List D), (∀ d ∈ ds, ∃ e e1, g d env = some e ∧ c e = .ok (q d) e1 ∧ (q d = true → ∃ e2, m e1 = .ok (y d) e2 ∧ wipeE e2 ws = env) ∧ (q d = false → wipeE e1 ws = env)) → acc.length + ds.length ≤ sizeLine →
    lcF g c m ws ds acc env = .ok (acc ++ (ds.filter q).map y) env
  | [], acc, _, _ => by simp [lcF]
  | d :: ds, acc, h, hl => by
    obtain ⟨e, e1, h1, h2, h3, h4⟩ := h d (List.mem_cons_self ..)
    rw [lcF, h1]
    simp only [h2, v_b0]
    cases hq : q d with
    | true =>
      obtain ⟨e2, h5, h6⟩ := h3 hq
      simp only [if_true, h5, v_b0]
      rw [if_pos (by simp at hl; omega), h6, lc_filter q y ds (acc ++ [y d]) (fun d hd => h d (List.mem_cons_of_mem _ hd)) (by simp at hl ⊢; omega)]
      simp [hq]
    | false =>
      simp only [Bool.false_eq_true, if_false]
      rw [h4 hq, lc_filter q y ds acc (fun d hd => h d (List.mem_cons_of_mem _ hd)) (by simp at hl ⊢; omega)]
      simp [hq]
/-- one that changes what is around: Iv by the items so far -/
theorem lc_inv {g : MG} {c : MB} {m : ME} {ws : List Nat} : ∀ (ds : List D) (Iv : Nat → List D → Env → Prop), (∀ i d acc env, ds[i]? = some d → Iv i acc env → ∃ e e1 e2 y, g d env = some e ∧ c e = .ok true e1 ∧ m e1 = .ok y e2 ∧ Iv (i + 1) (acc ++ [y]) (wipeE e2 ws)) →
    ∀ {acc : List D} {env : Env}, acc.length + ds.length ≤ sizeLine → Iv 0 acc env → ∃ r e', lcF g c m ws ds acc env = .ok r e' ∧ Iv ds.length r e'
  | [], Iv, _, acc, env, _, h0 => ⟨acc, env, rfl, h0⟩
  | d :: ds, Iv, h, acc, env, hl, h0 => by
    obtain ⟨e, e1, e2, y, h1, h2, h3, h4⟩ := h 0 d acc env rfl h0
    obtain ⟨r, e', k1, k2⟩ := lc_inv ds (fun i => Iv (i + 1)) (fun i d acc env hd hi => h (i + 1) d acc env hd hi) (acc := acc ++ [y]) (by simp at hl ⊢; omega) h4
    refine ⟨r, e', ?_, k2⟩
    rw [lcF, h1]
    simp only [h2, v_b0, if_true, h3]
    rw [if_pos (by simp at hl; omega), k1]
/-! while -/
theorem while_more {c : MB} {m : MS} : ∀ {n k : Nat} {env : Env}, n ≤ k → whileF c m n env ≠ .no → whileF c m k env = whileF c m n env
  | 0, k, env, _, h => absurd rfl h
  | n + 1, 0, env, hk, h => by omega
  | n + 1, k + 1, env, hk, h => by
    rw [whileF] at h
    rw [whileF, whileF]
    cases hc : c env with
    | no => rfl
    | ex => rfl
    | ok b e =>
      rw [hc] at h
      simp only [v_bo] at h ⊢
      cases b with
      | false => rfl
      | true =>
        simp only [if_true] at h ⊢
        cases hm : m e with
        | no => rfl
        | ex => rfl
        | ok fl e2 =>
          rw [hm] at h
          simp only [v_bo] at h ⊢
          cases fl with
          | nx => exact while_more (by omega) h
          | ct => exact while_more (by omega) h
          | bk => rfl
          | rt d => rfl
theorem while_eq {c : MB} {m : MS} {env : Env} {r : R Fl} {n : Nat} (h : whileF c m n env = r) (hr : r ≠ .no) : sWhile c m env = r := by
  have ex : ∃ n, whileF c m n env ≠ .no := ⟨n, by rw [h]; exact hr⟩
  unfold sWhile
  rw [dif_pos ex]
  have h1 := ex.choose_spec
  rcases Nat.le_total n ex.choose with q | q
  · rw [while_more q (by rw [h]; exact hr), h]
  · rw [← while_more q h1, h]
theorem while_stop {c : MB} {m : MS} {env e : Env} (h : c env = .ok false e) : sWhile c m env = .ok .nx e := by
  refine while_eq (n := 1) ?_ (by simp)
  rw [whileF, h]
  rfl
theorem while_step {c : MB} {m : MS} {env e e' : Env} (h : c env = .ok true e) (h2 : m e = .ok .nx e' ∨ m e = .ok .ct e') (h3 : sWhile c m e' ≠ .no) : sWhile c m env = sWhile c m e' := by
  unfold sWhile at h3
  by_cases ex : ∃ n, whileF c m n e' ≠ .no
  · obtain ⟨n, hn⟩ := ex
    rw [while_eq (env := e') (n := n) rfl hn]
    refine while_eq (n := n + 1) ?_ hn
    rw [whileF, h]
    rcases h2 with h2 | h2
    · simp only [v_bo, if_true, h2]
    · simp only [v_bo, if_true, h2]
  · rw [dif_neg ex] at h3
    exact absurd rfl h3
/-- by an invariant and a number that falls -/
theorem while_inv {c : MB} {m : MS} (Iv Post : Env → Prop) (mu : Env → Nat) (h : ∀ env, Iv env → (∃ e e', c env = .ok true e ∧ (m e = .ok .nx e' ∨ m e = .ok .ct e') ∧ Iv e' ∧ mu e' < mu env) ∨ ∃ e, c env = .ok false e ∧ Post e) :
    ∀ {env : Env}, Iv env → ∃ e, sWhile c m env = .ok .nx e ∧ Post e := by
  have key : ∀ (k : Nat) (env : Env), mu env ≤ k → Iv env → ∃ e, sWhile c m env = .ok .nx e ∧ Post e := by
    intro k
    induction k with
    | zero =>
      intro env hk hi
      rcases h env hi with ⟨e, e', _, _, _, h4⟩ | ⟨e, h1, h2⟩
      · omega
      · exact ⟨e, while_stop h1, h2⟩
    | succ k ih =>
      intro env hk hi
      rcases h env hi with ⟨e, e', h1, h2, h3, h4⟩ | ⟨e, h1, h2⟩
      · obtain ⟨e2, k1, k2⟩ := ih e' (by omega) h3
        exact ⟨e2, by rw [while_step h1 h2 (by rw [k1]; simp), k1], k2⟩
      · exact ⟨e, while_stop h1, h2⟩
  intro env hi
  exact key _ env (Nat.le_refl _) hi
/-! ### numbers -/
theorem log2_lt {a k : Nat} (h : a < 2 ^ k) (hk : 0 < k) : a.log2 < k := by
  by_cases z : a = 0
  · subst z; simpa using hk
  · exact (Nat.log2_lt z).mpr h
theorem mulOk_of {a b : Int} (ha : a.natAbs < 2 ^ 5000) (hb : b.natAbs < 2 ^ 5000) : mulOk a b = true := by
  unfold mulOk
  refine decide_eq_true ?_
  have h1 := log2_lt ha (by decide)
  have h2 := log2_lt hb (by decide)
  omega
theorem abs_lt {a : Int} {k : Nat} (h0 : 0 ≤ a) (h : a < 2 ^ k) : a.natAbs < 2 ^ k := by
  have e : ((a.natAbs : Nat) : Int) = a := by omega
  have : ((a.natAbs : Nat) : Int) < ((2 ^ k : Nat) : Int) := by rw [e]; simpa using h
  exact Int.ofNat_lt.mp this
theorem pow_le {a j k : Nat} (h : a < 2 ^ j) (hk : j ≤ k) : a < 2 ^ k := Nat.lt_of_lt_of_le h (Nat.pow_le_pow_right (by decide) hk)
end Mi

set_option maxHeartbeats 4000000
namespace Mi
open PySem PySem.Spec PyProof.Rows L2 RZ Ov PpSet
noncomputable def b_l_take : MS :=
  (sSeq (sIf (bB (e2 fGt (e2 fIx (eV 0) (eC (.int 0))) (eC (.int 0)))) (sSeq (sAsg (gN 2) (e2 fMod (e2 fIx (eV 0) (eC (.int 0))) (eV 1)))
  (sSeq (sPut (0, none) (eFk (e2 fDiv (e2 fIx (eV 0) (eC (.int 0))) (eV 1))) (eC (.int 0)))
  (sRet (eMv 2)))) sPass)
  (sSeq (sPut (0, none) (eFk (e2 fAdd (e2 fIx (eV 0) (eC (.int 2))) (eC (.int 1)))) (eC (.int 2)))
  (sSeq (sAsg (gN 3) (e2 fMod (e2 fMul (e2 fAdd (e2 fAdd (e2 fIx (eV 0) (eC (.int 1))) (e2 fMul (e2 fMul (eC (.int 65537)) (e2 fIx (eV 0) (eC (.int 2)))) (e2 fIx (eV 0) (eC (.int 2))))) (eC (.int 11))) (eC (.int 48271))) (eC (.int 2305843009213693921))))
  (sSeq (sAsg (gN 3) (e2 fMod (e2 fMul (eV 3) (e2 fAdd (e2 fMod (eV 3) (eC (.int 1000003))) (e2 fMul (eC (.int 99991)) (e2 fIx (eV 0) (eC (.int 2)))))) (eC (.int 2305843009213693907))))
  (sRet (e2 fMod (e2 fAdd (e2 fDiv (eV 3) (eC (.int 97))) (e2 fDiv (eV 3) (eC (.int 1000033)))) (eV 1)))))))
noncomputable def m_l_take : Fun := fnOf 2 [true, false] b_l_take
noncomputable def b_is_integer : MS :=
  (sRet (eAnd (e1 (fIsa Kd.isInt) (eV 0)) (eAnd (eNot (e1 (fIsa Kd.isBool) (eV 0))) (eChain fLe fLe (eV 1) (eV 0) (eV 2)))))
noncomputable def m_is_integer : Fun := fnOf 0 [false, false, false] b_is_integer
noncomputable def ce_is_ascending_1 : ME :=
  (e2 fLt (eV 1) (eV 2))
noncomputable def cp_is_ascending_1 : ME :=
  (eLc (iOf zipD (lCons (eVk 0) (lCons (eFk (eSl (eV 0) (oS (eC (.int 1))) oN)) lNil))) (gT (gsCons (gN 1) (gsCons (gN 2) gsNil))) bYes ce_is_ascending_1 [1, 2])
noncomputable def b_is_ascending : MS :=
  (sRet (eL fAll (lCons cp_is_ascending_1 lNil)))
noncomputable def m_is_ascending : Fun := fnOf 2 [false] b_is_ascending
noncomputable def ce_is_name_1 : ME :=
  (e2 fIn (eV 1) (eC (.str (PySem.Str.ofString "abcdefghijklmnopqrstuvwxyz"))))
noncomputable def cp_is_name_1 : ME :=
  (eLc (iStrD (eV 0)) (gN 1) bYes ce_is_name_1 [1])
noncomputable def b_is_name : MS :=
  (sRet (eAnd (e1 (fIsa Kd.isStr) (eV 0)) (eAnd (eChain fLe fLe (eC (.int 1)) (eL fLen (lCons (eV 0) lNil)) (eC (.int 8))) (eL fAll (lCons cp_is_name_1 lNil)))))
noncomputable def m_is_name : Fun := fnOf 1 [false] b_is_name
noncomputable def ce_l_longest_1 : ME :=
  (eVk 3)
noncomputable def cp_l_longest_1 : ME :=
  (eLc (iSeq (eK (e2 fIx (eV 0) (eC (.int 1))))) (gT (gsCons (gN 1) (gsCons (gN 2) (gsCons (gN 3) (gsCons (gN 4) gsNil))))) bYes ce_l_longest_1 [1, 2, 3, 4])
noncomputable def b_l_longest : MS :=
  (sRet (eL fMax (lCons cp_l_longest_1 lNil)))
noncomputable def m_l_longest : Fun := fnOf 4 [false] b_l_longest
noncomputable def ce_InstructionSet_longest_1 : ME :=
  (eVk 3)
noncomputable def cp_InstructionSet_longest_1 : ME :=
  (eLc (iSeq (eK (eFld ["InstructionSet"] "instructions" (eV 0)))) (gT (gsCons (gN 1) (gsCons (gN 2) (gsCons (gN 3) (gsCons (gN 4) gsNil))))) bYes ce_InstructionSet_longest_1 [1, 2, 3, 4])
noncomputable def b_InstructionSet_longest : MS :=
  (sRet (eL fMax (lCons cp_InstructionSet_longest_1 lNil)))
noncomputable def m_InstructionSet_longest : Fun := fnOf 4 [false] b_InstructionSet_longest
noncomputable def b_InstructionSet_length_at : MS :=
  (sRet (eIf (bB (e2 fIn (eV 1) (eFld ["InstructionSet"] "by_opcode" (eV 0)))) (eK (e2 fIx (e2 fIx (eFld ["InstructionSet"] "by_opcode" (eV 0)) (eV 1)) (eC (.int 2)))) (eC (.int 0))))
noncomputable def m_InstructionSet_length_at : Fun := fnOf 0 [false, false] b_InstructionSet_length_at
noncomputable def lb_l_length_at_1 : MS :=
  (sIf (bB (e2 fEq2 (eV 2) (eV 1))) (sRet (eMv 4)) sPass)
noncomputable def lp_l_length_at_1 : MS :=
  (sFor (iSeq (eK (e2 fIx (eV 0) (eC (.int 1))))) (gT (gsCons (gN 2) (gsCons (gN 3) (gsCons (gN 4) (gsCons (gN 5) gsNil))))) lb_l_length_at_1)
noncomputable def b_l_length_at : MS :=
  (sSeq lp_l_length_at_1
  (sRet (eC (.int 0))))
noncomputable def m_l_length_at : Fun := fnOf 4 [false, false] b_l_length_at
noncomputable def b_l_box : MS :=
  (sSeq (sAsg (gN 2) (eIf (bB (e2 fLt (eV 1) (eL fLen (lCons (eV 0) lNil)))) (eK (e2 fIx (eV 0) (eV 1))) (eC (.int 0))))
  (sSeq (sAsg (gN 3) (e2 fMul (e2 fMod (eL fAbs (lCons (eV 2) lNil)) (e2 fMul (e2 fMul (e2 fMul (e2 fPow (eC (.int 10)) (eC (.int 60))) (e2 fPow (eC (.int 10)) (eC (.int 60)))) (e2 fPow (eC (.int 10)) (eC (.int 60)))) (e2 fPow (eC (.int 10)) (eC (.int 60))))) (eL fInt (lCons (e2 fGe (eL fAbs (lCons (eV 2) lNil)) (e2 fPow (eC (.int 10)) (eC (.int 18)))) lNil))))
  (sRet (eLst (lCons (eVk 3) (lCons (e2 fMod (e2 fMul (e2 fAdd (e2 fAdd (e2 fMod (eV 2) (eC (.int 2305843009213693951))) (e2 fMul (e2 fMul (eC (.int 7919)) (eV 1)) (eV 1))) (eC (.int 43))) (eC (.int 48271))) (eC (.int 2305843009213693921))) (lCons (eC (.int 0)) lNil)))))))
noncomputable def m_l_box : Fun := fnOf 2 [false, false] b_l_box
noncomputable def b_l_of : MS :=
  (sRet (eK (e2 fIx (eVk 1) (eCall m_l_take [.io 0, .e (eFk (eL fLen (lCons (eV 1) lNil)))]))))
noncomputable def m_l_of : Fun := fnOf 0 [true, false] b_l_of
noncomputable def b_is_instruction : MS :=
  (sSeq (sIf (bOr (bNot (bB (e1 (fIsa Kd.isTuple) (eV 0)))) (bB (e2 fNe2 (eL fLen (lCons (eV 0) lNil)) (eC (.int 4))))) (sRet (eC (.bl false))) sPass)
  (sSeq (sAsg (gT (gsCons (gN 2) (gsCons (gN 3) (gsCons (gN 4) (gsCons (gN 5) gsNil))))) (eVk 0))
  (sSeq (sIf (bOr (bNot (bB (eCall m_is_integer [.e (eVk 2), .e (eC (.int 0)), .e (eFk (e2 fSub (eV 1) (eC (.int 1))))]))) (bNot (bB (eCall m_is_name [.e (eVk 3)])))) (sRet (eC (.bl false))) sPass)
  (sRet (eAnd (eCall m_is_integer [.e (eVk 4), .e (eC (.int 1)), .e (eC (.int 12))]) (e1 (fIsa Kd.isBool) (eV 5)))))))
noncomputable def m_is_instruction : Fun := fnOf 4 [false, false] b_is_instruction
noncomputable def ce_identity_map_1 : ME :=
  (eTup (lCons (eVk 1) (lCons (eC (.int 0)) lNil)))
noncomputable def cp_identity_map_1 : ME :=
  (eLc (iOf rng1 (lCons (eMeth "InstructionSet" "longest" m_InstructionSet_longest (.e (eVk 0)) []) lNil)) (gN 1) bYes ce_identity_map_1 [1])
noncomputable def b_identity_map : MS :=
  (sRet (eL fTuple (lCons cp_identity_map_1 lNil)))
noncomputable def m_identity_map : Fun := fnOf 1 [false] b_identity_map
noncomputable def lb_code_map_1 : MS :=
  (sSeq (sAsg (gN 6) (eMeth "InstructionSet" "length_at" m_InstructionSet_length_at (.e (eVk 0)) [.e (eK (e2 fIx (eV 1) (eV 5)))]))
  (sIf (bB (e2 fGt (eV 6) (eC (.int 0)))) (sSeq (sAsg (gT (gsCons (gN 7) (gsCons (gN 8) gsNil))) (eK (e2 fIx (eV 4) (e2 fAdd (eV 5) (eV 6)))))
  (sPut (4, none) (eFk (eTup (lCons (eVk 7) (lCons (e2 fAdd (eV 8) (eC (.int 1))) lNil)))) (eV 5))) sPass))
noncomputable def lp_code_map_1 : MS :=
  (sFor (iOf rng3 (lCons (e2 fSub (eV 2) (eC (.int 1))) (lCons (e1 fNeg (eC (.int 1))) (lCons (e1 fNeg (eC (.int 1))) lNil)))) (gN 5) lb_code_map_1)
noncomputable def ce_code_map_1 : ME :=
  (eTup (lCons (eVk 9) (lCons (eC (.int 0)) lNil)))
noncomputable def cp_code_map_1 : ME :=
  (eLc (iOf rng1 (lCons (eV 3) lNil)) (gN 9) bYes ce_code_map_1 [9])
noncomputable def b_code_map : MS :=
  (sSeq (sPar 2 3 (lCons (eL fLen (lCons (eV 1) lNil)) (lCons (eMeth "InstructionSet" "longest" m_InstructionSet_longest (.e (eVk 0)) []) lNil)))
  (sSeq (sAsg (gN 4) (e2 fAdd (e2 fMul (eLst (lCons (eTup (lCons (eC .non) (lCons (eC (.int 0)) lNil))) lNil)) (eV 2)) cp_code_map_1))
  (sSeq lp_code_map_1
  (sRet (eL fTuple (lCons (eSl (eV 4) oN (oS (eV 3))) lNil))))))
noncomputable def m_code_map : Fun := fnOf 8 [false, false] b_code_map
noncomputable def lb_l_map_1 : MS :=
  (sSeq (sIf (bB (e2 fEq2 (eV 4) (eC (.int 0)))) (sSeq (sAsg (gN 4) (eCall m_l_length_at [.e (eVk 0), .e (eVk 6)]))
  (sPar 5 4 (lCons (e2 fAdd (eV 5) (eL fInt (lCons (e2 fGt (eV 4) (eC (.int 0))) lNil))) (lCons (eIf (bB (e2 fGt (eV 4) (eC (.int 0)))) (eVk 4) (eC .non)) lNil)))) sPass)
  (sAsg (gN 4) (eIf (bB (e2 fNis (eV 4) (eC .non))) (e2 fSub (eV 4) (eC (.int 1))) (eC .non))))
noncomputable def lp_l_map_1 : MS :=
  (sFor (iSeq (eVk 1)) (gN 6) lb_l_map_1)
noncomputable def lb_l_map_2 : MS :=
  (sSeq (sPar 4 5 (lCons (eVk 3) (lCons (eC (.int 0)) lNil)))
  (sSeq lp_l_map_1
  (sExpr (mList (2, none) (lCons (eTup (lCons (eVk 4) (lCons (eVk 5) lNil))) lNil) fAppend))))
noncomputable def lp_l_map_2 : MS :=
  (sFor (iOf rng1 (lCons (eCall m_l_longest [.e (eVk 0)]) lNil)) (gN 3) lb_l_map_2)
noncomputable def b_l_map : MS :=
  (sSeq (sAsg (gN 2) (eLst lNil))
  (sSeq lp_l_map_2
  (sRet (eL fTuple (lCons (eV 2) lNil)))))
noncomputable def m_l_map : Fun := fnOf 5 [false, false] b_l_map
noncomputable def lb_l_table_1 : MS :=
  (sSeq (sAsg (gN 10) (eK (e2 fIx (eC (.str (PySem.Str.ofString "abcdefghijklmnopqrstuvwxyz"))) (e2 fMod (e2 fAdd (eV 7) (e2 fMul (eC (.int 5)) (eV 8))) (eC (.int 26))))))
  (sSeq (sAsg (gN 11) (e2 fAdd (e2 fMul (eVk 10) (e2 fAdd (eC (.int 1)) (eCall m_l_take [.io 0, .e (eC (.int 3))]))) (e2 fMul (eIf (bB (e2 fEq2 (eV 10) (eC (.str (PySem.Str.ofString "z"))))) (eC (.str (PySem.Str.ofString "y"))) (eC (.str (PySem.Str.ofString "z")))) (e2 fDiv (eV 8) (eC (.int 26))))))
  (sSeq (sAsg (gN 12) (eCall m_l_of [.io 0, .e (eFk (eLst (lCons (eC (.int 1)) (lCons (eC (.int 2)) (lCons (eC (.int 3)) (lCons (e2 fAdd (eC (.int 1)) (eCall m_l_take [.io 0, .e (eVk 2)])) lNil))))))]))
  (sExpr (mList (6, none) (lCons (eTup (lCons (eVk 9) (lCons (eVk 11) (lCons (eL fMin2 (lCons (eV 12) (lCons (eV 2) lNil))) (lCons (eOr (e2 fEq2 (eV 8) (eC (.int 0))) (e2 fEq2 (eCall m_l_take [.io 0, .e (eC (.int 2))]) (eC (.int 0)))) lNil))))) lNil) fAppend)))))
noncomputable def lp_l_table_1 : MS :=
  (sFor (iOf enumD (lCons (eVk 5) lNil)) (gT (gsCons (gN 8) (gsCons (gN 9) gsNil))) lb_l_table_1)
noncomputable def lb_l_table_2 : MS :=
  (sExpr (mList (5, none) (lCons (eCall m_l_take [.io 0, .e (eFk (eL fLen (lCons (eV 5) lNil)))]) lNil) fPopAt))
noncomputable def lp_l_table_2 : MS :=
  (sWhile (bB (e2 fGt (eL fLen (lCons (eV 5) lNil)) (eV 4))) lb_l_table_2)
noncomputable def b_l_table : MS :=
  (sSeq (sAsg (gN 3) (e2 fAdd (eC (.int 2)) (eCall m_l_take [.io 0, .e (eFk (e2 fSub (eV 1) (eC (.int 1))))])))
  (sSeq (sPar 4 5 (lCons (e2 fAdd (eC (.int 1)) (eCall m_l_take [.io 0, .e (eFk (eL fMin2 (lCons (eC (.int 6)) (lCons (eV 3) lNil))))])) (lCons (eLRg (eRg1 (eV 3))) lNil)))
  (sSeq (sIf (bAnd (bB (e2 fGt (eV 3) (eC (.int 12)))) (bB (e2 fEq2 (e2 fMod (eV 3) (eC (.int 7))) (eC (.int 3))))) (sAsg (gN 4) (e2 fAdd (eC (.int 7)) (e2 fDiv (eV 3) (eC (.int 4))))) sPass)
  (sSeq lp_l_table_2
  (sSeq (sPar 6 7 (lCons (eLst lNil) (lCons (eCall m_l_take [.io 0, .e (eC (.int 26))]) lNil)))
  (sSeq lp_l_table_1
  (sRet (eTup (lCons (eVk 3) (lCons (eL fTuple (lCons (eV 6) lNil)) lNil))))))))))
noncomputable def m_l_table : Fun := fnOf 10 [true, false, false] b_l_table
noncomputable def ce_are_instructions_1 : ME :=
  (eK (e2 fIx (eV 3) (eC (.int 0))))
noncomputable def cp_are_instructions_1 : ME :=
  (eLc (iSeq (eVk 0)) (gN 3) bYes ce_are_instructions_1 [3])
noncomputable def cp_are_instructions_2 : ME :=
  (eSc (iSeq (eVk 0)) (gN 3) bYes (eK (e2 fIx (eV 3) (eC (.int 1)))) [3])
noncomputable def ce_are_instructions_2 : ME :=
  (eCall m_is_instruction [.e (eVk 3), .e (eVk 1)])
noncomputable def cp_are_instructions_3 : ME :=
  (eLc (iSeq (eVk 0)) (gN 3) bYes ce_are_instructions_2 [3])
noncomputable def b_are_instructions : MS :=
  (sSeq (sIf (bOr (bNot (bB (e1 (fIsa Kd.isTuple) (eV 0)))) (bB (e2 fEq2 (eV 0) (eTup lNil)))) (sRet (eC (.bl false))) sPass)
  (sSeq (sIf (bNot (bB (eL fAll (lCons cp_are_instructions_3 lNil)))) (sRet (eC (.bl false))) sPass)
  (sSeq (sAsg (gN 2) cp_are_instructions_2)
  (sRet (eAnd (eCall m_is_ascending [.e (eFk cp_are_instructions_1)]) (e2 fEq2 (eL fLen (lCons (eV 2) lNil)) (eL fLen (lCons (eV 0) lNil))))))))
noncomputable def m_are_instructions : Fun := fnOf 2 [false, false] b_are_instructions
noncomputable def ce_l_bytes_1 : ME :=
  (eIf (bB (e2 fGt (eCall m_l_take [.io 0, .e (eC (.int 4))]) (eC (.int 0)))) (eCall m_l_of [.io 0, .e (eVk 3)]) (eCall m_l_take [.io 0, .e (eK (e2 fIx (eV 1) (eC (.int 0))))]))
noncomputable def cp_l_bytes_1 : ME :=
  (eLc (iOf rng1 (lCons (eV 2) lNil)) (gN 5) bYes ce_l_bytes_1 [5])
noncomputable def ce_l_bytes_2 : ME :=
  (eK (e2 fIx (eV 4) (eC (.int 0))))
noncomputable def cp_l_bytes_2 : ME :=
  (eLc (iSeq (eK (e2 fIx (eV 1) (eC (.int 1))))) (gN 4) bYes ce_l_bytes_2 [4])
noncomputable def b_l_bytes : MS :=
  (sSeq (sAsg (gN 3) cp_l_bytes_2)
  (sRet (eL fTuple (lCons cp_l_bytes_1 lNil))))
noncomputable def m_l_bytes : Fun := fnOf 3 [true, false, false] b_l_bytes
noncomputable def b_l_small : MS :=
  (sRet (eCall m_l_table [.io 0, .e (eFk (e2 fAdd (eC (.int 2)) (eCall m_l_take [.io 0, .e (eC (.int 11))]))), .e (eFk (eCall m_l_of [.io 0, .e (eFk (eLst (lCons (eC (.int 2)) (lCons (eC (.int 3)) (lCons (eC (.int 3)) (lCons (eC (.int 4)) (lCons (eC (.int 12)) lNil)))))))]))]))
noncomputable def m_l_small : Fun := fnOf 0 [true] b_l_small
noncomputable def cp_InstructionSet_init_1 : ME :=
  (eDc (iSeq (eVk 2)) (gN 3) bYes (eK (e2 fIx (eV 3) (eC (.int 0)))) (eVk 3) [3])
noncomputable def b_InstructionSet_init : MS :=
  (sSeq (sIf (bNot (bB (eCall m_is_integer [.e (eVk 1), .e (eC (.int 2)), .e (eC (.int 256))]))) sNo sPass)
  (sSeq (sIf (bNot (bB (eCall m_are_instructions [.e (eVk 2), .e (eVk 1)]))) sNo sPass)
  (sSeq (sFldD 0 ["InstructionSet"] "byte_count" (eVk 1))
  (sSeq (sFldD 0 ["InstructionSet"] "instructions" (eVk 2))
  (sFldD 0 ["InstructionSet"] "by_opcode" cp_InstructionSet_init_1)))))
noncomputable def m_InstructionSet_init : Fun := fnOf 1 [true, false, false] b_InstructionSet_init
noncomputable def b_l_machine : MS :=
  (sRet (eNew "InstructionSet" m_InstructionSet_init [.e (eK (e2 fIx (eV 0) (eC (.int 0)))), .e (eK (e2 fIx (eV 0) (eC (.int 1))))]))
noncomputable def m_l_machine : Fun := fnOf 0 [false] b_l_machine
noncomputable def ce_l_right_1 : ME :=
  (eTup (lCons (eVk 6) (lCons (eC (.int 0)) lNil)))
noncomputable def cp_l_right_1 : ME :=
  (eLc (iOf rng1 (lCons (eV 3) lNil)) (gN 6) bYes ce_l_right_1 [6])
noncomputable def lb_l_right_1 : MS :=
  (sSeq (sAsg (gN 5) (eCall m_l_bytes [.io 0, .e (eVk 1), .e (eVk 4)]))
  (sIf (bB (e2 fNe2 (eL fRepr (lCons (eCall m_code_map [.e (eVk 2), .e (eVk 5)]) lNil)) (eL fRepr (lCons (eCall m_l_map [.e (eVk 1), .e (eVk 5)]) lNil)))) (sRet (eC (.bl false))) sPass))
noncomputable def lp_l_right_1 : MS :=
  (sFor (iSeq (eTup (lCons (eCall m_l_take [.io 0, .e (eVk 3)]) (lCons (eCall m_l_take [.io 0, .e (eC (.int 41))]) (lCons (eC (.int 1)) (lCons (eC (.int 0)) lNil)))))) (gN 4) lb_l_right_1)
noncomputable def b_l_right : MS :=
  (sSeq (sAsg (gN 1) (eCall m_l_small [.io 0]))
  (sSeq (sPar 2 3 (lCons (eCall m_l_machine [.e (eVk 1)]) (lCons (eCall m_l_longest [.e (eVk 1)]) lNil)))
  (sSeq lp_l_right_1
  (sRet (e2 fEq2 (eL fRepr (lCons (eCall m_identity_map [.e (eVk 2)]) lNil)) (eL fRepr (lCons (eL fTuple (lCons cp_l_right_1 lNil)) lNil)))))))
noncomputable def m_l_right : Fun := fnOf 6 [true] b_l_right
noncomputable def ce_law_k24_1 : ME :=
  (eCall (fDrop [true] [false] m_l_right) [.e (eCall m_l_box [.e (eVk 0), .e (eVk 1)])])
noncomputable def cp_law_k24_1 : ME :=
  (eLc (iOf rng1 (lCons (eL fMax2 (lCons (eC (.int 1)) (lCons (eL fMin2 (lCons (eC (.int 3)) (lCons (eL fLen (lCons (eV 0) lNil)) lNil))) lNil))) lNil)) (gN 1) bYes ce_law_k24_1 [1])
noncomputable def b_law_k24 : MS :=
  (sRet (eL fAll (lCons cp_law_k24_1 lNil)))
noncomputable def m_law_k24 : Fun := fnOf 1 [false] b_law_k24
end Mi

set_option maxHeartbeats 4000000
set_option exponentiation.threshold 100000
namespace Mi
open PySem PySem.Spec PyProof.Rows L2 RZ Ov PpSet
local macro_rules | `(tactic| walk_at "ev") => `(tactic| simp -dsimp only [*, b_bo, b_b0, v_bo, v_b0, v_c, v_v, v_mv, v_vk, v_k, v_fk, v_nil, v_cons, v_1, v_2, v_L, v_bB, asB_b, v_bAnd, v_bOr, v_bNot, v_bYes, v_if, v_and, v_or, v_not, v_tup, v_lst, v_fld, asI_i, v_oN, v_oS, optI_i, v_sl, v_rg1, v_rg2, v_lrg, v_trg, chainK_b, v_chain,
  Fl.k_nx, Fl.k_rt, Fl.k_bk, Fl.k_ct, v_seq, v_pass, v_bk, v_ct, v_ret, v_retN, v_expr, v_sif, v_asg, optE_s, v_gN, v_gT, v_gsN, v_gsC, Option.bind_some, v_par, v_par3, v_aug, v_put, v_sfld, v_for, optL_s, v_iSeq, v_iOf, v_iStr, v_lc, v_mList, Rf.back_ok, optP_s, v_callF, v_call, v_aN, v_aE, v_aI, v_fN, v_fE, v_fI, optD_s, Option.map_some,
  v_kN, v_kE, v_kI, v_methE, v_methI, Rf.newB_ok, v_new, fin_rt, fin_nx, getR_s, liftK_s, R.ite_t, R.ite_f, List.getElem?_cons_zero, List.getElem?_cons_succ, List.set_cons_zero, List.set_cons_succ, List.map_cons, List.map_nil, List.cons_append, List.nil_append, List.replicate_succ, List.replicate_zero, k2_s, k3_s, insK_s, strK_s, mlK_s, optF_s, joinO_s, v_gp, v_gq, fldO_s, v_gf, setO_s, v_gs, optR_s, al_n, al_c, pi_t, pi_f, pi_n, wi_n, wi_c,
  add_i, sub_i, mod_i, div_i, pow_60, pow_18, lt_i, le_i, gt_i, ge_i, mul_i, is_n, nis_n, is_i, nis_i, is_t, nis_t, ix_t, ix_l, ix_s, set0, set1, set2, len_t, len_l, len_s, abs_i, int_i, int_b, sl_l, sl_t, fz_l, fz_t, fz_d, fz_i, seq_t, seq_l, zip_l, zip_t, enum_l, tuple_l, tuple_t, list_l, list_t, neg_i, isa_isInt_non, isa_isInt_bl, isa_isInt_int, isa_isInt_str, isa_isInt_tup, isa_isInt_lst, isa_isInt_scr, isa_isInt_dct, isa_isBool_non, isa_isBool_bl, isa_isBool_int, isa_isBool_str, isa_isBool_tup, isa_isBool_lst, isa_isBool_scr, isa_isBool_dct, isa_isStr_non, isa_isStr_bl, isa_isStr_int, isa_isStr_str, isa_isStr_tup, isa_isStr_lst, isa_isStr_scr, isa_isStr_dct, isa_isTuple_non, isa_isTuple_bl, isa_isTuple_int, isa_isTuple_str, isa_isTuple_tup, isa_isTuple_lst, isa_isTuple_scr, isa_isTuple_dct, isa_isList_non, isa_isList_bl, isa_isList_int, isa_isList_str, isa_isList_tup, isa_isList_lst, isa_isList_scr, isa_isList_dct, isa_isDict_non, isa_isDict_bl, isa_isDict_int, isa_isDict_str, isa_isDict_tup, isa_isDict_lst, isa_isDict_scr, isa_isDict_dct, eq_i, ne_i, eq_s, ne_s, fzn_1, fzn_2, fzn_3, fzn_4, fzn_5, fzn_6, fzn_7, fzn_8, fzn_9, fzn_s, fznL_n, fznL_c, fznK_n, fznK_c, fznF_n, fznF_c, sz0, sz1, sz2, sz3, sz4, sz5, sz6, sz7, sz8, pk1, pk2, pk3, pk4, fzL_n, fzL_c, fz_int, fz_bl, fz_str, fz_non, putD_n, putD_c, at0, at1, at2, at3, ix0, ix1, ix2, Bool.not_true, Bool.not_false, Bool.true_and, Bool.and_true, Bool.false_and, Bool.and_false, Bool.or_true, Bool.true_or, Bool.false_or, Bool.or_false, if_true, if_false, Bool.false_eq_true, decide_true, decide_false, and_self, and_true, true_and, not_true_eq_false, not_false_eq_true, ne_eq, false_and, and_false, eq_self])
local macro_rules | `(tactic| walk_at "env") => `(tactic| simp only [List.map_cons, List.map_nil, List.cons_append, List.nil_append, List.replicate_succ, List.replicate_zero])
/-! ### the box -/
def Bx (N : Nat) (d : D) : Prop := ∃ (o s n : Int), d = .lst true [.int o, .int s, .int n] ∧ 0 ≤ o ∧ o < 10 ^ 240 ∧ 0 ≤ s ∧ s < 2305843009213693951 ∧ 0 ≤ n ∧ n ≤ (N : Int)
theorem Bx.mono {N M : Nat} {d : D} (h : Bx N d) (hN : N ≤ M) : Bx M d := by
  obtain ⟨o, s, n, h0, h1, h2, h3, h4, h5, h6⟩ := h
  exact ⟨o, s, n, h0, h1, h2, h3, h4, h5, by omega⟩
theorem emod_b {a m : Int} (h : 0 < m) : 0 ≤ a % m ∧ a % m < m := ⟨Int.emod_nonneg _ (by omega), Int.emod_lt_of_pos _ h⟩
theorem small_abs {a : Int} (h0 : 0 ≤ a) (h : a < 2 ^ 1000) : a.natAbs < 2 ^ 5000 := pow_le (abs_lt h0 h) (by decide)
theorem mulOk_s {a b : Int} (h0 : 0 ≤ a) (h : a < 2 ^ 1000) (h1 : 0 ≤ b) (h2 : b < 2 ^ 1000) : mulOk a b = true := mulOk_of (small_abs h0 h) (small_abs h1 h2)
theorem lt_k {a : Int} {k : Int} (h : a < k) (hk : k ≤ 2 ^ 1000 := by decide +kernel) : a < 2 ^ 1000 := Int.lt_of_lt_of_le h hk
theorem mul_lt' {a b x y : Int} (h0 : 0 ≤ a) (h1 : a < x) (h2 : 0 ≤ b) (h3 : b < y) : 0 ≤ a * b ∧ a * b < x * y := by
  refine ⟨Int.mul_nonneg h0 h2, ?_⟩
  have h4 : a * b ≤ a * y := Int.mul_le_mul_of_nonneg_left (by omega) h0
  have h5 : a * y < x * y := Int.mul_lt_mul_of_pos_right h1 (by omega)
  omega
theorem take_spec {N : Nat} {b : D} {m : Int} (hb : Bx N b) (hN : N ≤ 2 ^ 60) (h0 : 0 < m) (h1 : m ≤ 10 ^ 40) : ∃ r b', m_l_take [b, .int m] = .ok (.int r) [b'] ∧ 0 ≤ r ∧ r < m ∧ Bx (N + 1) b' := by
  obtain ⟨o, s, n, rfl, q1, q2, q3, q4, q5, q6⟩ := hb
  have l40 : m < 2 ^ 1000 := Int.lt_of_le_of_lt h1 (by decide +kernel)
  have lm : m.natAbs.log2 < 9000 := by
    have := log2_lt (abs_lt (by omega) l40) (by decide)
    omega
  by_cases ho : 0 < o
  · refine ⟨o % m, .lst true [.int (o / m), .int s, .int n], ?_, (emod_b h0).1, (emod_b h0).2, _, _, _, rfl, Int.ediv_nonneg q1 (by omega), ?_, q3, q4, q5, by omega⟩
    · unfold m_l_take b_l_take
      rw [v_fn]
      walk_at "ev"
    · have := Int.ediv_le_self m q1
      omega
  · have n1 : n + 1 < 2 ^ 62 := by omega
    have e1 : mulOk 65537 (n + 1) = true := mulOk_s (by omega) (by decide +kernel) (by omega) (lt_k n1)
    obtain ⟨c1, c2⟩ := mul_lt' (a := 65537) (x := 65538) (b := n + 1) (by omega) (by omega) (by omega) n1
    have e2 : mulOk (65537 * (n + 1)) (n + 1) = true := mulOk_s c1 (lt_k c2) (by omega) (lt_k n1)
    obtain ⟨c3, c4⟩ := mul_lt' (a := 65537 * (n + 1)) (b := n + 1) c1 c2 (by omega) n1
    have e3 : mulOk (s + 65537 * (n + 1) * (n + 1) + 11) 48271 = true := mulOk_s (by omega) (lt_k (k := 2 ^ 200) (by omega)) (by omega) (by decide +kernel)
    generalize hx : (s + 65537 * (n + 1) * (n + 1) + 11) * 48271 % 2305843009213693921 = x
    obtain ⟨x1, x2⟩ := emod_b (a := (s + 65537 * (n + 1) * (n + 1) + 11) * 48271) (m := 2305843009213693921) (by omega)
    rw [hx] at x1 x2
    have e4 : mulOk 99991 (n + 1) = true := mulOk_s (by omega) (by decide +kernel) (by omega) (lt_k n1)
    obtain ⟨y1, y2⟩ := emod_b (a := x) (m := 1000003) (by omega)
    have e5 : mulOk x (x % 1000003 + 99991 * (n + 1)) = true := mulOk_s x1 (lt_k x2) (by omega) (lt_k (k := 2 ^ 100) (by omega))
    generalize hy : x * (x % 1000003 + 99991 * (n + 1)) % 2305843009213693907 = y
    refine ⟨(y / 97 + y / 1000033) % m, .lst true [.int o, .int s, .int (n + 1)], ?_, (emod_b h0).1, (emod_b h0).2, _, _, _, rfl, q1, q2, q3, q4, by omega, by omega⟩
    have k1 : (0 : Int) < 2305843009213693921 := by decide
    have k2 : (0 : Int) < 2305843009213693907 := by decide
    have k3 : (0 : Int) < 1000003 := by decide
    have k4 : (0 : Int) < 97 := by decide
    have k5 : (0 : Int) < 1000033 := by decide
    have k6 : (97 : Int).natAbs.log2 < 9000 := by decide +kernel
    have k7 : (1000033 : Int).natAbs.log2 < 9000 := by decide +kernel
    clear hN q1 q2 q3 q4 q5 q6 h1 c1 c2 c3 c4 x1 x2 y1 y2 n1
    unfold m_l_take b_l_take
    rw [v_fn]
    walk_at "ev"
theorem at_mem {α : Type} {xs : List α} {i : Int} (h0 : 0 ≤ i) (h : i < xs.length) : ∃ x ∈ xs, atI xs i = some x := by
  obtain ⟨j, rfl⟩ := Int.eq_ofNat_of_zero_le h0
  have hj : j < xs.length := by omega
  exact ⟨xs[j], List.getElem_mem hj, atI_nat (List.getElem?_eq_getElem hj)⟩
theorem fznL_mem {ds : List D} (h : fznL ds = true) : ∀ d ∈ ds, fzn d = true := by
  induction ds with
  | nil => intro d hd; cases hd
  | cons a r ih =>
    rw [fznL, Bool.and_eq_true] at h
    intro d hd
    rcases List.mem_cons.mp hd with rfl | hd
    · exact h.1
    · exact ih h.2 d hd
theorem fznL_of {ds : List D} (h : ∀ d ∈ ds, fzn d = true) : fznL ds = true := by
  induction ds with
  | nil => rfl
  | cons a r ih =>
    rw [fznL, h a (List.mem_cons_self ..), ih fun d hd => h d (List.mem_cons_of_mem _ hd)]
    rfl
theorem fznL_map {α : Type} {f : α → D} {l : List α} (h : ∀ a ∈ l, fzn (f a) = true) : fznL (l.map f) = true := fznL_of fun d hd => by
  obtain ⟨a, ha, rfl⟩ := List.mem_map.mp hd
  exact h a ha
theorem box_spec {ns : List Int} {k : Nat} (hk : k < 1000) : ∃ b, m_l_box [.scr (ns.map .int), .int k] = .ok b [] ∧ Bx 0 b := by
  obtain ⟨c, hc⟩ : ∃ c : Int, (eIf (bB (e2 fLt (eV 1) (eL fLen (lCons (eV 0) lNil)))) (eK (e2 fIx (eV 0) (eV 1))) (eC (.int 0))) [some (.scr (ns.map .int)), some (.int k), none, none] = .ok (.int c) [some (.scr (ns.map .int)), some (.int k), none, none] := by
    by_cases h : (k : Int) < ((ns.map D.int).length : Int)
    · obtain ⟨x, hx, h2⟩ := at_mem (xs := ns.map D.int) (by omega) h
      obtain ⟨c, _, rfl⟩ := List.mem_map.mp hx
      exact ⟨c, by walk_at "ev"⟩
    · exact ⟨0, by walk_at "ev"⟩
  have e1 : mulOk (10 ^ 60) (10 ^ 60) = true := by decide +kernel
  have e2 : mulOk (10 ^ 60 * 10 ^ 60) (10 ^ 60) = true := by decide +kernel
  have e3 : mulOk (10 ^ 60 * 10 ^ 60 * 10 ^ 60) (10 ^ 60) = true := by decide +kernel
  have hp : (0 : Int) < 10 ^ 60 * 10 ^ 60 * 10 ^ 60 * 10 ^ 60 := by decide +kernel
  generalize ha : (if c < 0 then -c else c) = a
  obtain ⟨a1, a2⟩ := emod_b (a := a) hp
  obtain ⟨i, hi, i1, i2⟩ : ∃ i : Int, (if decide ((10 : Int) ^ 18 ≤ a) = true then (1 : Int) else 0) = i ∧ 0 ≤ i ∧ i ≤ 1 := by
    by_cases h : (10 : Int) ^ 18 ≤ a
    · exact ⟨1, by simp only [h, decide_true, if_true], by omega, by omega⟩
    · exact ⟨0, by simp only [h, decide_false, Bool.false_eq_true, if_false], by omega, by omega⟩
  have e4 : mulOk (a % (10 ^ 60 * 10 ^ 60 * 10 ^ 60 * 10 ^ 60)) i = true := mulOk_s a1 (lt_k a2) i1 (lt_k (k := 2) (by omega))
  have e5 : mulOk 7919 (k : Int) = true := mulOk_s (by omega) (by decide +kernel) (by omega) (lt_k (k := 1000) (by omega))
  obtain ⟨c1, c2⟩ := mul_lt' (a := 7919) (x := 8000) (b := (k : Int)) (y := 1000) (by omega) (by omega) (by omega) (by omega)
  have e6 : mulOk (7919 * (k : Int)) (k : Int) = true := mulOk_s c1 (lt_k c2) (by omega) (lt_k (k := 1000) (by omega))
  obtain ⟨c3, c4⟩ := mul_lt' c1 c2 (b := (k : Int)) (y := 1000) (by omega) (by omega)
  obtain ⟨d1, d2⟩ := emod_b (a := c) (m := 2305843009213693951) (by omega)
  have e7 : mulOk (c % 2305843009213693951 + 7919 * (k : Int) * (k : Int) + 43) 48271 = true := mulOk_s (by omega) (lt_k (k := 2 ^ 200) (by omega)) (by omega) (by decide +kernel)
  obtain ⟨f1, f2⟩ := emod_b (a := (c % 2305843009213693951 + 7919 * (k : Int) * (k : Int) + 43) * 48271) (m := 2305843009213693921) (by omega)
  refine ⟨.lst true [.int (a % (10 ^ 60 * 10 ^ 60 * 10 ^ 60 * 10 ^ 60) * i), .int ((c % 2305843009213693951 + 7919 * (k : Int) * (k : Int) + 43) * 48271 % 2305843009213693921), .int 0], ?_, _, _, _, rfl, ?_, ?_, f1, by omega, by omega, by omega⟩
  · have k1 : (0 : Int) < 2305843009213693951 := by decide
    have k2 : (0 : Int) < 2305843009213693921 := by decide
    have k3 : (3 : Nat) ≤ sizeLine := by decide
    clear a1 a2 i1 i2 c1 c2 c3 c4 d1 d2 f1 f2
    unfold m_l_box b_l_box
    rw [v_fn]
    simp only [List.map_cons, List.map_nil, List.cons_append, List.nil_append, List.replicate_succ, List.replicate_zero]
    rw [v_seq, v_asg, hc]
    clear hc
    walk_at "ev"
  · rcases (by omega : i = 0 ∨ i = 1) with rfl | rfl
    · rw [Int.mul_zero]; exact Int.le_refl _
    · rw [Int.mul_one]; exact a1
  · have hq : (10 : Int) ^ 60 * 10 ^ 60 * 10 ^ 60 * 10 ^ 60 = 10 ^ 240 := by decide +kernel
    rw [hq] at a2 ⊢
    rcases (by omega : i = 0 ∨ i = 1) with rfl | rfl
    · rw [Int.mul_zero]; decide +kernel
    · rw [Int.mul_one]; exact a2
theorem of_spec {N : Nat} {b d : D} {xs : List D} (hb : Bx N b) (hN : N ≤ 2 ^ 60) (hd : d = .lst false xs ∨ d = .tup xs) (h0 : xs ≠ []) (h1 : xs.length ≤ 2 ^ 30) (hz : fznL xs = true) : ∃ r b', m_l_of [b, d] = .ok r [b'] ∧ r ∈ xs ∧ Bx (N + 1) b' := by
  have hl : 0 < xs.length := List.length_pos_iff.mpr h0
  obtain ⟨i, b', ht, h2, h3, h4⟩ := take_spec (m := xs.length) hb hN (by omega) (by omega)
  obtain ⟨x, hx, ha⟩ := at_mem h2 h3
  have hf := fznL_mem hz x hx
  refine ⟨x, b', ?_, hx, h4⟩
  unfold m_l_of b_l_of
  rcases hd with rfl | rfl
  · skip
    rw [v_fn]
    walk_at "ev"
  · rw [v_fn]
    walk_at "ev"
end Mi

set_option maxHeartbeats 4000000
set_option exponentiation.threshold 100000
namespace Mi
open PySem PySem.Spec PyProof.Rows L2 RZ Ov PpSet
local macro_rules | `(tactic| walk_at "ev") => `(tactic| simp -dsimp only [*, b_bo, b_b0, v_bo, v_b0, v_c, v_v, v_mv, v_vk, v_k, v_fk, v_nil, v_cons, v_1, v_2, v_L, v_bB, asB_b, v_bAnd, v_bOr, v_bNot, v_bYes, v_if, v_and, v_or, v_not, v_tup, v_lst, v_fld, asI_i, v_oN, v_oS, optI_i, v_sl, v_rg1, v_rg2, v_lrg, v_trg, chainK_b, v_chain,
  Fl.k_nx, Fl.k_rt, Fl.k_bk, Fl.k_ct, v_seq, v_pass, v_bk, v_ct, v_ret, v_retN, v_expr, v_sif, v_asg, optE_s, v_gN, v_gT, v_gsN, v_gsC, Option.bind_some, v_par, v_par3, v_aug, v_put, v_sfld, v_for, optL_s, v_iSeq, v_iOf, v_iStr, v_lc, v_mList, Rf.back_ok, optP_s, v_callF, v_call, v_aN, v_aE, v_aI, v_fN, v_fE, v_fI, optD_s, Option.map_some,
  v_kN, v_kE, v_kI, v_methE, v_methI, Rf.newB_ok, v_new, fin_rt, fin_nx, getR_s, liftK_s, R.ite_t, R.ite_f, List.getElem?_cons_zero, List.getElem?_cons_succ, List.set_cons_zero, List.set_cons_succ, List.map_cons, List.map_nil, List.cons_append, List.nil_append, List.replicate_succ, List.replicate_zero, k2_s, k3_s, insK_s, strK_s, mlK_s, optF_s, joinO_s, v_gp, v_gq, fldO_s, v_gf, setO_s, v_gs, optR_s, al_n, al_c, pi_t, pi_f, pi_n, wi_n, wi_c,
  add_i, sub_i, mod_i, div_i, pow_60, pow_18, lt_i, le_i, gt_i, ge_i, mul_i, is_n, nis_n, is_i, nis_i, is_t, nis_t, ix_t, ix_l, ix_s, set0, set1, set2, len_t, len_l, len_s, abs_i, int_i, int_b, sl_l, sl_t, fz_l, fz_t, fz_d, fz_i, seq_t, seq_l, zip_l, zip_t, enum_l, tuple_l, tuple_t, list_l, list_t, neg_i, isa_isInt_non, isa_isInt_bl, isa_isInt_int, isa_isInt_str, isa_isInt_tup, isa_isInt_lst, isa_isInt_scr, isa_isInt_dct, isa_isBool_non, isa_isBool_bl, isa_isBool_int, isa_isBool_str, isa_isBool_tup, isa_isBool_lst, isa_isBool_scr, isa_isBool_dct, isa_isStr_non, isa_isStr_bl, isa_isStr_int, isa_isStr_str, isa_isStr_tup, isa_isStr_lst, isa_isStr_scr, isa_isStr_dct, isa_isTuple_non, isa_isTuple_bl, isa_isTuple_int, isa_isTuple_str, isa_isTuple_tup, isa_isTuple_lst, isa_isTuple_scr, isa_isTuple_dct, isa_isList_non, isa_isList_bl, isa_isList_int, isa_isList_str, isa_isList_tup, isa_isList_lst, isa_isList_scr, isa_isList_dct, isa_isDict_non, isa_isDict_bl, isa_isDict_int, isa_isDict_str, isa_isDict_tup, isa_isDict_lst, isa_isDict_scr, isa_isDict_dct, eq_i, ne_i, eq_s, ne_s, fzn_1, fzn_2, fzn_3, fzn_4, fzn_5, fzn_6, fzn_7, fzn_8, fzn_9, fzn_s, fznL_n, fznL_c, fznK_n, fznK_c, fznF_n, fznF_c, sz0, sz1, sz2, sz3, sz4, sz5, sz6, sz7, sz8, pk1, pk2, pk3, pk4, fzL_n, fzL_c, fz_int, fz_bl, fz_str, fz_non, putD_n, putD_c, at0, at1, at2, at3, ix0, ix1, ix2, Bool.not_true, Bool.not_false, Bool.true_and, Bool.and_true, Bool.false_and, Bool.and_false, Bool.or_true, Bool.true_or, Bool.false_or, Bool.or_false, if_true, if_false, Bool.false_eq_true, decide_true, decide_false, and_self, and_true, true_and, not_true_eq_false, not_false_eq_true, ne_eq, false_and, and_false, eq_self])
local macro_rules | `(tactic| walk_at "env") => `(tactic| simp only [List.map_cons, List.map_nil, List.cons_append, List.nil_append, List.replicate_succ, List.replicate_zero])
/-! ### comprehensions of a list given by a map -/
theorem lcF_map {α : Type} {g : MG} {m : ME} {ws : List Nat} {env : Env} {f y : α → D} : ∀ (l : List α) (acc : List D), (∀ a ∈ l, ∃ e, g (f a) env = some e ∧ m e = .ok (y a) e ∧ wipeE e ws = env) → acc.length + l.length ≤ sizeLine →
    lcF g bYes m ws (l.map f) acc env = .ok (acc ++ l.map y) env
  | [], acc, _, _ => by simp [lcF]
  | a :: l, acc, h, hl => by
    obtain ⟨e, h1, h3, h4⟩ := h a (List.mem_cons_self ..)
    rw [List.map_cons, lcF, h1]
    simp only [v_bYes, v_b0, if_true, h3]
    rw [if_pos (by simp at hl; omega), h4, lcF_map l (acc ++ [y a]) (fun d hd => h d (List.mem_cons_of_mem _ hd)) (by simp at hl ⊢; omega)]
    simp
theorem eLc_map {α : Type} {it : MI} {g : MG} {m : ME} {ws : List Nat} {env e env0 : Env} (l : List α) (f y : α → D) (h1 : it env = .ok (l.map f) e) (h2 : wipeE e ws = env0) (hl : l.length ≤ sizeLine)
    (h : ∀ a ∈ l, ∃ e, g (f a) env0 = some e ∧ m e = .ok (y a) e ∧ wipeE e ws = env0) : eLc it g bYes m ws env = .ok (.lst true (l.map y)) env0 := by
  rw [v_lc, h1, b_bo, h2, lcF_map l [] h (by simpa using hl), b_b0]
  rfl
theorem eLc_inv {it : MI} {g : MG} {m : ME} {ws : List Nat} {env e : Env} {ds : List D} (h1 : it env = .ok ds e) (hl : ds.length ≤ sizeLine) (Iv : Nat → List D → Env → Prop) (h0 : Iv 0 [] (wipeE e ws))
    (h : ∀ i d acc env, ds[i]? = some d → Iv i acc env → ∃ e e2 y, g d env = some e ∧ m e = .ok y e2 ∧ Iv (i + 1) (acc ++ [y]) (wipeE e2 ws)) : ∃ r e', eLc it g bYes m ws env = .ok (.lst true r) e' ∧ Iv ds.length r e' := by
  obtain ⟨r, e', k1, k2⟩ := lc_inv (g := g) (c := bYes) (m := m) (ws := ws) ds Iv (fun i d acc env hd hi => by
    obtain ⟨e, e2, y, h3, h4, h5⟩ := h i d acc env hd hi
    exact ⟨e, e, e2, y, h3, rfl, h4, h5⟩) (acc := []) (by simpa using hl) h0
  exact ⟨r, e', by rw [v_lc, h1, b_bo, k1, b_b0], k2⟩
theorem cF_map {α β : Type} {g : MG} {m : ML} {ws : List Nat} {env : Env} {add : β → List D → Option β} {f : α → D} {y : α → List D} (acc : List α → β) : ∀ (l done : List α), (∀ a ∈ l, ∃ e, g (f a) env = some e ∧ m e = .ok (y a) e ∧ wipeE e ws = env) →
    (∀ k a l', done ++ l = k ++ a :: l' → add (acc k) (y a) = some (acc (k ++ [a]))) → cF g bYes m ws add (l.map f) (acc done) env = .ok (acc (done ++ l)) env
  | [], done, _, _ => by simp [cF]
  | a :: l, done, h, hl => by
    obtain ⟨e, h1, h3, h4⟩ := h a (List.mem_cons_self ..)
    rw [List.map_cons, cF, h1]
    simp only [v_bYes, v_b0, if_true, h3]
    rw [hl done a l rfl]
    simp only [h4]
    rw [cF_map acc l (done ++ [a]) (fun d hd => h d (List.mem_cons_of_mem _ hd)) (fun k b l' hk => hl k b l' (by simpa using hk))]
    simp
theorem eComp_map {α β : Type} {it : MI} {g : MG} {m : ML} {ws : List Nat} {env e env0 : Env} {add : β → List D → Option β} {a0 : β} {fin : β → D} (l : List α) (f : α → D) (y : α → List D) (acc : List α → β) (ha : acc [] = a0) (h1 : it env = .ok (l.map f) e) (h2 : wipeE e ws = env0)
    (h : ∀ a ∈ l, ∃ e, g (f a) env0 = some e ∧ m e = .ok (y a) e ∧ wipeE e ws = env0)
    (hl : ∀ k a l', l = k ++ a :: l' → add (acc k) (y a) = some (acc (k ++ [a]))) : eComp it g bYes m ws add a0 fin env = .ok (fin (acc l)) env0 := by
  unfold eComp
  rw [h1, v_bo, h2, ← ha, cF_map acc l [] h (by simpa using hl), v_b0]
  rfl
/-- a dict of distinct keys -/
theorem look_none {α : Type} {k v : α → D} {x : D} : ∀ {l : List α}, (∀ a ∈ l, eqF (k a) x = false) → lookD (l.map fun a => (k a, v a)) x = none
  | [], _ => rfl
  | a :: l, h => by
    have ih := look_none (k := k) (v := v) (x := x) (l := l) fun b hb => h b (List.mem_cons_of_mem _ hb)
    unfold lookD at ih ⊢
    rw [List.map_cons, List.find?_cons, h a (List.mem_cons_self ..)]
    exact ih
theorem look_some {α : Type} {k v : α → D} {x : D} {b : α} : ∀ {l : List α}, b ∈ l → (∀ a ∈ l, eqF (k a) x = true ↔ a = b) → lookD (l.map fun a => (k a, v a)) x = some (v b)
  | [], hb, _ => by cases hb
  | a :: l, hb, h => by
    unfold lookD
    rw [List.map_cons, List.find?_cons]
    cases e : eqF (k a) x with
    | true => rw [(h a (List.mem_cons_self ..)).mp e]; rfl
    | false =>
      have : b ∈ l := by
        rcases List.mem_cons.mp hb with rfl | hb
        · rw [(h b (List.mem_cons_self ..)).mpr rfl] at e; cases e
        · exact hb
      have ih := look_some (k := k) (v := v) (x := x) this fun c hc => h c (List.mem_cons_of_mem _ hc)
      unfold lookD at ih
      exact ih
theorem eDc_map {α : Type} {it : MI} {g : MG} {mk mv : ME} {ws : List Nat} {env e env0 : Env} (l : List α) (f k v : α → D) (h1 : it env = .ok (l.map f) e) (h2 : wipeE e ws = env0) (hs : l.length ≤ sizeLine)
    (h : ∀ a ∈ l, ∃ e, g (f a) env0 = some e ∧ mk e = .ok (k a) e ∧ mv e = .ok (v a) e ∧ wipeE e ws = env0) (hk : ∀ a ∈ l, (keyD (k a)).isSome = true ∧ fzn (v a) = true) (hn : l.Pairwise fun a b => eqF (k a) (k b) = false) :
    eDc it g bYes mk mv ws env = .ok (.dct true (l.map fun a => (k a, v a))) env0 := by
  unfold eDc
  refine eComp_map l f (fun a => [k a, v a]) (fun l => l.map fun a => (k a, v a)) rfl h1 h2 (fun a ha => ?_) fun kk a l' e => ?_
  · obtain ⟨e, q1, q2, q3, q4⟩ := h a ha
    refine ⟨e, q1, ?_, q4⟩
    rw [v_cons, q2, b_bo, v_cons, q3, b_bo]
    rfl
  · obtain ⟨q1, q2⟩ := hk a (by rw [e]; simp)
    have q3 : kk.length < sizeLine := by rw [e] at hs; simp at hs; omega
    rw [e, List.pairwise_append] at hn
    have q4 : ∀ b ∈ kk, eqF (k b) (k a) = false := fun b hb => hn.2.2 b hb a (List.mem_cons_self ..)
    rw [addKD]
    cases q : keyD (k a) with
    | none => rw [q] at q1; cases q1
    | some z =>
      simp only [List.length_map, q2, Bool.and_true, decide_eq_true_eq, q3, if_true, putKD]
      rw [look_none q4]
      simp
/-- a set of texts -/
theorem eSc_strs {α : Type} {it : MI} {g : MG} {m : ME} {ws : List Nat} {env e env0 : Env} (l : List α) (f : α → D) (y : α → Str) (h0 : l ≠ []) (h1 : it env = .ok (l.map f) e) (h2 : wipeE e ws = env0) (hs : l.length ≤ 1000)
    (h : ∀ a ∈ l, ∃ e, g (f a) env0 = some e ∧ m e = .ok (.str (y a)) e ∧ wipeE e ws = env0) (hn : (l.map y).Nodup) :
    eSc it g bYes m ws env = .ok (.set (.non :: (l.map y).map .str)) env0 := by
  have h' : ∀ a ∈ l, ∃ e, g (f a) env0 = some e ∧ lCons m lNil e = .ok [.str (y a)] e ∧ wipeE e ws = env0 := fun a ha => by
    obtain ⟨e, q1, q2, q4⟩ := h a ha
    refine ⟨e, q1, ?_, q4⟩
    rw [v_cons, q2, b_bo]
    rfl
  have k1 : eComp it g bYes (lCons m lNil) ws addSI [] (fun ns => .set (ns.map .int)) env = .no := by
    unfold eComp
    rw [h1, v_bo, h2]
    cases l with
    | nil => exact absurd rfl h0
    | cons a l =>
      obtain ⟨e, q1, q2, _⟩ := h' a (List.mem_cons_self ..)
      rw [List.map_cons, cF, q1]
      simp only [v_bYes, v_b0, if_true, q2]
      rfl
  have k2 : eComp it g bYes (lCons m lNil) ws addST [] (fun xs => .set (.non :: xs.map .str)) env = .ok (.set (.non :: (l.map y).map .str)) env0 := by
    refine eComp_map (fin := fun xs : List Str => D.set (.non :: xs.map .str)) l f (fun a => [.str (y a)]) (fun l => l.map y) rfl h1 h2 h' fun kk a l' e => ?_
    rw [addST, if_pos (by rw [e] at hs; simp at hs ⊢; omega)]
    rw [if_neg]
    · simp
    · rw [e] at hn
      simp only [List.map_append, List.map_cons, List.nodup_append] at hn
      simp only [List.any_eq_true, decide_eq_true_eq, not_exists, not_and]
      intro z hz e2
      exact hn.2.2 z hz (y a) (List.mem_cons_self ..) e2.symm
  unfold eSc
  rw [k1, k2]
theorem all_t {α : Type} {o : Bool} {l : List α} : fAll [.lst o (l.map fun _ => .bl true)] = some (.bl true) := by
  have : ∀ l : List α, boolsD (l.map fun _ => .bl true) = some (l.map fun _ => true) := by
    intro l
    induction l with
    | nil => rfl
    | cons a l ih => rw [List.map_cons, boolsD, ih]; rfl
  unfold fAll lBools
  simp only
  rw [this]
  simp
theorem max_n {α : Type} {o : Bool} {l : List α} {y : α → Nat} (h : l ≠ []) : fMax [.lst o (l.map fun a => .int (y a))] = some (.int (maxI (l.map fun a => (y a : Int)))) := by
  have : ∀ l : List α, intsD (l.map fun a => .int (y a)) = some (l.map fun a => (y a : Int)) := by
    intro l
    induction l with
    | nil => rfl
    | cons a l ih => rw [List.map_cons, intsD, ih]; rfl
  unfold fMax lInts
  simp only
  rw [this]
  cases l with
  | nil => exact absurd rfl h
  | cons a l => rfl
end Mi

set_option maxHeartbeats 4000000
set_option exponentiation.threshold 100000
namespace Mi
open PySem PySem.Spec PyProof.Rows L2 RZ Ov PpSet
local macro_rules | `(tactic| walk_at "ev") => `(tactic| simp -dsimp only [*, b_bo, b_b0, v_bo, v_b0, v_c, v_v, v_mv, v_vk, v_k, v_fk, v_nil, v_cons, v_1, v_2, v_L, v_bB, asB_b, v_bAnd, v_bOr, v_bNot, v_bYes, v_if, v_and, v_or, v_not, v_tup, v_lst, v_fld, asI_i, v_oN, v_oS, optI_i, v_sl, v_rg1, v_rg2, v_lrg, v_trg, chainK_b, v_chain,
  Fl.k_nx, Fl.k_rt, Fl.k_bk, Fl.k_ct, v_seq, v_pass, v_bk, v_ct, v_ret, v_retN, v_expr, v_sif, v_asg, optE_s, v_gN, v_gT, v_gsN, v_gsC, Option.bind_some, v_par, v_par3, v_aug, v_put, v_sfld, v_for, optL_s, v_iSeq, v_iOf, v_iStr, v_lc, v_mList, Rf.back_ok, optP_s, v_callF, v_call, v_aN, v_aE, v_aI, v_fN, v_fE, v_fI, optD_s, Option.map_some,
  v_kN, v_kE, v_kI, v_methE, v_methI, Rf.newB_ok, v_new, fin_rt, fin_nx, getR_s, liftK_s, R.ite_t, R.ite_f, List.getElem?_cons_zero, List.getElem?_cons_succ, List.set_cons_zero, List.set_cons_succ, List.map_cons, List.map_nil, List.cons_append, List.nil_append, List.replicate_succ, List.replicate_zero, k2_s, k3_s, insK_s, strK_s, mlK_s, optF_s, joinO_s, v_gp, v_gq, fldO_s, v_gf, setO_s, v_gs, optR_s, al_n, al_c, pi_t, pi_f, pi_n, wi_n, wi_c,
  add_i, sub_i, mod_i, div_i, pow_60, pow_18, lt_i, le_i, gt_i, ge_i, mul_i, is_n, nis_n, is_i, nis_i, is_t, nis_t, ix_t, ix_l, ix_s, set0, set1, set2, len_t, len_l, len_s, abs_i, int_i, int_b, sl_l, sl_t, fz_l, fz_t, fz_d, fz_i, seq_t, seq_l, zip_l, zip_t, enum_l, tuple_l, tuple_t, list_l, list_t, neg_i, isa_isInt_non, isa_isInt_bl, isa_isInt_int, isa_isInt_str, isa_isInt_tup, isa_isInt_lst, isa_isInt_scr, isa_isInt_dct, isa_isBool_non, isa_isBool_bl, isa_isBool_int, isa_isBool_str, isa_isBool_tup, isa_isBool_lst, isa_isBool_scr, isa_isBool_dct, isa_isStr_non, isa_isStr_bl, isa_isStr_int, isa_isStr_str, isa_isStr_tup, isa_isStr_lst, isa_isStr_scr, isa_isStr_dct, isa_isTuple_non, isa_isTuple_bl, isa_isTuple_int, isa_isTuple_str, isa_isTuple_tup, isa_isTuple_lst, isa_isTuple_scr, isa_isTuple_dct, isa_isList_non, isa_isList_bl, isa_isList_int, isa_isList_str, isa_isList_tup, isa_isList_lst, isa_isList_scr, isa_isList_dct, isa_isDict_non, isa_isDict_bl, isa_isDict_int, isa_isDict_str, isa_isDict_tup, isa_isDict_lst, isa_isDict_scr, isa_isDict_dct, eq_i, ne_i, eq_s, ne_s, fzn_1, fzn_2, fzn_3, fzn_4, fzn_5, fzn_6, fzn_7, fzn_8, fzn_9, fzn_s, fznL_n, fznL_c, fznK_n, fznK_c, fznF_n, fznF_c, sz0, sz1, sz2, sz3, sz4, sz5, sz6, sz7, sz8, pk1, pk2, pk3, pk4, fzL_n, fzL_c, fz_int, fz_bl, fz_str, fz_non, putD_n, putD_c, at0, at1, at2, at3, ix0, ix1, ix2, Bool.not_true, Bool.not_false, Bool.true_and, Bool.and_true, Bool.false_and, Bool.and_false, Bool.or_true, Bool.true_or, Bool.false_or, Bool.or_false, if_true, if_false, Bool.false_eq_true, decide_true, decide_false, and_self, and_true, true_and, not_true_eq_false, not_false_eq_true, ne_eq, false_and, and_false, eq_self])
local macro_rules | `(tactic| walk_at "env") => `(tactic| simp only [List.map_cons, List.map_nil, List.cons_append, List.nil_append, List.replicate_succ, List.replicate_zero])
/-! ### rows of an instruction table -/
structure Row where
  op : Nat
  nm : Str
  ln : Nat
  en : Bool
def Row.d (r : Row) : D := .tup [.int r.op, .str r.nm, .int r.ln, .bl r.en]
def abc : Str := PySem.Str.ofString "abcdefghijklmnopqrstuvwxyz"
structure NameOk (x : Str) : Prop where
  lo : 1 ≤ x.length
  hi : x.length ≤ 8
  abc : ∀ c ∈ x.cps.toList, c ∈ abc.cps.toList
structure RowOk (c L : Nat) (r : Row) : Prop where
  op : r.op < c
  nm : NameOk r.nm
  l0 : 1 ≤ r.ln
  l1 : r.ln ≤ L
structure TabOk (c L : Nat) (rs : List Row) : Prop where
  lo : 2 ≤ c
  hi : c ≤ 256
  ne : rs ≠ []
  len : rs.length ≤ c
  row : ∀ r ∈ rs, RowOk c L r
  asc : rs.Pairwise fun a b => a.op < b.op
  nms : (rs.map (·.nm)).Nodup
def tabD (c : Nat) (rs : List Row) : D := .tup [.int c, .tup (rs.map Row.d)]
theorem fzn_row (r : Row) : fzn r.d = true := rfl
theorem fznL_rows (rs : List Row) : fznL (rs.map Row.d) = true := fznL_map fun r _ => fzn_row r
theorem seq_rows (rs : List Row) : seqD (.tup (fzL (rs.map Row.d))) = some (rs.map Row.d) := by
  rw [fz_sameL _ (fznL_rows rs)]
  rfl
theorem isint_spec {x lo hi : Int} (h1 : lo ≤ x) (h2 : x ≤ hi) : m_is_integer [.int x, .int lo, .int hi] = .ok (.bl true) [] := by
  unfold m_is_integer b_is_integer
  rw [v_fn]
  walk_at "ev"
theorem isname_spec {x : Str} (h : NameOk x) : m_is_name [.str x] = .ok (.bl true) [] := by
  have h1 : x.length ≤ sizeLine := Nat.le_trans h.hi (by decide)
  have h2 : fLen [.str x] = some (.int x.length) := if_pos h1
  have h3 : (1 : Int) ≤ (x.length : Int) := by have := h.lo; omega
  have h4 : (x.length : Int) ≤ 8 := by have := h.hi; omega
  have hc : cp_is_name_1 [some (.str x), none] = .ok (.lst true (x.cps.toList.map fun _ => .bl true)) [some (.str x), none] := by
    unfold cp_is_name_1
    refine eLc_map x.cps.toList (fun c => .str ⟨#[c]⟩) _ (e := [some (.str x), none]) ?_ rfl ?_ fun c hc => ⟨[some (.str x), some (.str ⟨#[c]⟩)], rfl, ?_, rfl⟩
    · walk_at "ev"
    · exact h1
    · unfold ce_is_name_1
      have : fIn (.str ⟨#[c]⟩) (.str (PySem.Str.ofString "abcdefghijklmnopqrstuvwxyz")) = some (.bl true) := by
        have : c ∈ (PySem.Str.ofString "abcdefghijklmnopqrstuvwxyz").cps.toList := h.abc c hc
        show some (D.bl (decide (c ∈ (PySem.Str.ofString "abcdefghijklmnopqrstuvwxyz").cps.toList))) = _
        rw [decide_eq_true this]
      walk_at "ev"
  have ha := all_t (o := true) (l := x.cps.toList)
  unfold m_is_name b_is_name
  rw [v_fn]
  walk_at "ev"
theorem isinst_spec {c L : Nat} {r : Row} (h : RowOk c L r) (hL : L ≤ 12) : m_is_instruction [r.d, .int c] = .ok (.bl true) [] := by
  have h1 := isint_spec (x := r.op) (lo := 0) (hi := (c : Int) - 1) (by omega) (by have := h.op; omega)
  have h2 := isname_spec h.nm
  have h3 := isint_spec (x := r.ln) (lo := 1) (hi := 12) (by have := h.l0; omega) (by have := h.l1; omega)
  have h4 : fNe2 (.int (([D.int r.op, .str r.nm, .int r.ln, .bl r.en] : List D).length : Nat)) (.int 4) = some (.bl false) := rfl
  unfold m_is_instruction b_is_instruction Row.d
  rw [v_fn]
  walk_at "ev"
theorem cut1 {α : Type} {xs : List α} : cutA xs (some 1) none = xs.drop 1 := by
  unfold cutA
  have h1 : HT.sIx xs.length 0 (some 1) = min 1 xs.length := by simp [HT.sIx]
  have h2 : HT.sIx xs.length xs.length none = xs.length := by simp [HT.sIx]
  rw [h1, h2]
  rcases Nat.lt_or_ge 0 xs.length with h | h
  · rw [show min 1 xs.length = 1 by omega]
    exact List.take_of_length_le (by simp)
  · have : xs = [] := List.eq_nil_of_length_eq_zero (by omega)
    subst this
    rfl
theorem zip_tail {ns : List Nat} (h : ns.Pairwise (· < ·)) : ∃ l : List (Nat × Nat), List.zipWith (fun x y : D => D.tup [x, y]) (ns.map fun n : Nat => D.int n) ((ns.map fun n : Nat => D.int n).drop 1) = l.map (fun p => D.tup [.int (p.1 : Nat), .int (p.2 : Nat)]) ∧ (∀ p ∈ l, p.1 < p.2) ∧ l.length ≤ ns.length := by
  induction ns with
  | nil => exact ⟨[], rfl, fun _ h => (by cases h), Nat.le_refl _⟩
  | cons a ns ih =>
    cases ns with
    | nil => exact ⟨[], rfl, fun _ h => (by cases h), Nat.zero_le _⟩
    | cons b ns =>
      rw [List.pairwise_cons] at h
      obtain ⟨l, h1, h2, h3⟩ := ih h.2
      refine ⟨(a, b) :: l, ?_, ?_, by simp at h3 ⊢; omega⟩
      · simp only [List.map_cons, List.drop_succ_cons, List.drop_zero, List.zipWith_cons_cons] at h1 ⊢
        rw [h1]
      · intro p hp
        rcases List.mem_cons.mp hp with rfl | hp
        · exact h.1 b (List.mem_cons_self ..)
        · exact h2 p hp
theorem fznL_ints {α : Type} {l : List α} {y : α → Int} : fznL (l.map fun a => D.int (y a)) = true := fznL_map fun _ _ => rfl
theorem asc_spec {ns : List Nat} (h : ns.Pairwise (· < ·)) (hl : ns.length ≤ 1000) : m_is_ascending [.lst false (ns.map fun n : Nat => .int n)] = .ok (.bl true) [] := by
  obtain ⟨l, h1, h2, h3⟩ := zip_tail h
  have z1 : fznL (ns.map fun n : Nat => D.int n) = true := fznL_ints
  have z2 : fzL ((ns.map fun n : Nat => D.int n).drop 1) = (ns.map fun n : Nat => D.int n).drop 1 := by
    rw [← List.map_drop]
    exact fz_sameL _ fznL_ints
  generalize hX : (ns.map fun n : Nat => D.int n) = X at *
  have hc : cp_is_ascending_1 [some (.lst false X), none, none] = .ok (.lst true (l.map fun _ => .bl true)) [some (.lst false X), none, none] := by
    unfold cp_is_ascending_1
    refine eLc_map l (fun p => .tup [.int (p.1 : Nat), .int (p.2 : Nat)]) _ (e := [some (.lst false X), none, none]) ?_ rfl ?_ fun p hp => ⟨[some (.lst false X), some (.int (p.1 : Nat)), some (.int (p.2 : Nat))], rfl, ?_, rfl⟩
    · have e1 := cut1 (xs := X)
      walk_at "ev"
    · exact Nat.le_trans (by omega : l.length ≤ 1000) (by decide)
    · unfold ce_is_ascending_1
      have : ((p.1 : Nat) : Int) < ((p.2 : Nat) : Int) := by have := h2 p hp; omega
      walk_at "ev"
  have ha := all_t (o := true) (l := l)
  unfold m_is_ascending b_is_ascending
  rw [v_fn]
  walk_at "ev"
theorem eq_nil {ds : List D} {ps : List PyData} (h : toPyL ds = some ps) (hp : plainA 60 ps = true) (h0 : ds ≠ []) : fEq2 (.tup ds) (.tup []) = some (.bl false) := by
  show fEq (.tup ds) (.tup []) = _
  unfold fEq eqP
  rw [toPy, toPy, h]
  have e1 : SeqAt.shaped (.tuple ps) = true := shaped_of (n := 61) (by simpa [plainD] using hp) (by decide)
  have e2 : SeqAt.shaped (.tuple []) = true := by decide
  show ((if (SeqAt.shaped (.tuple ps) && SeqAt.shaped (.tuple [])) = true then some (PyData.eqv (.tuple ps) (.tuple [])) else none).map D.bl) = _
  rw [e1, e2]
  cases ds with
  | nil => exact absurd rfl h0
  | cons d ds =>
    rw [toPyL, Option.bind_eq_some_iff] at h
    obtain ⟨p, _, h⟩ := h
    rw [Option.map_eq_some_iff] at h
    obtain ⟨qs, _, rfl⟩ := h
    rfl
theorem toPyL_map {α : Type} {f : α → D} {g : α → PyData} : ∀ {l : List α}, (∀ a ∈ l, toPy (f a) = some (g a)) → toPyL (l.map f) = some (l.map g)
  | [], _ => by rw [List.map_nil, toPyL]; rfl
  | a :: l, h => by
    rw [List.map_cons, toPyL, h a (List.mem_cons_self ..), toPyL_map fun b hb => h b (List.mem_cons_of_mem _ hb)]
    rfl
def Row.p (r : Row) : PyData := .tuple [.int r.op, .str r.nm, .int r.ln, .bool r.en]
theorem NameOk.ok {x : Str} (h : NameOk x) : PyData.strOk x = true := by
  unfold PyData.strOk
  rw [Array.all_eq_true']
  intro c hc
  have := h.abc c (by simpa using hc)
  have h2 : ∀ c ∈ Mi.abc.cps.toList, c < 0x110000 := by decide
  exact decide_eq_true (h2 c this)
theorem row_py (r : Row) : toPy r.d = some r.p := by
  simp [Row.d, Row.p, toPy, toPyL]
theorem row_plain {r : Row} (h : NameOk r.nm) {n : Nat} : plainD (n + 1) r.p = true := by
  simp [Row.p, plainD, plainA, h.ok, plain_int, plain_bool]
end Mi

set_option maxHeartbeats 4000000
set_option exponentiation.threshold 100000
namespace Mi
open PySem PySem.Spec PyProof.Rows L2 RZ Ov PpSet
local macro_rules | `(tactic| walk_at "ev") => `(tactic| simp -dsimp only [*, b_bo, b_b0, v_bo, v_b0, v_c, v_v, v_mv, v_vk, v_k, v_fk, v_nil, v_cons, v_1, v_2, v_L, v_bB, asB_b, v_bAnd, v_bOr, v_bNot, v_bYes, v_if, v_and, v_or, v_not, v_tup, v_lst, v_fld, asI_i, v_oN, v_oS, optI_i, v_sl, v_rg1, v_rg2, v_lrg, v_trg, chainK_b, v_chain,
  Fl.k_nx, Fl.k_rt, Fl.k_bk, Fl.k_ct, v_seq, v_pass, v_bk, v_ct, v_ret, v_retN, v_expr, v_sif, v_asg, optE_s, v_gN, v_gT, v_gsN, v_gsC, Option.bind_some, v_par, v_par3, v_aug, v_put, v_sfld, v_for, optL_s, v_iSeq, v_iOf, v_iStr, v_lc, v_mList, Rf.back_ok, optP_s, v_callF, v_call, v_aN, v_aE, v_aI, v_fN, v_fE, v_fI, optD_s, Option.map_some,
  v_kN, v_kE, v_kI, v_methE, v_methI, Rf.newB_ok, v_new, fin_rt, fin_nx, getR_s, liftK_s, R.ite_t, R.ite_f, List.getElem?_cons_zero, List.getElem?_cons_succ, List.set_cons_zero, List.set_cons_succ, List.map_cons, List.map_nil, List.cons_append, List.nil_append, List.replicate_succ, List.replicate_zero, k2_s, k3_s, insK_s, strK_s, mlK_s, optF_s, joinO_s, v_gp, v_gq, fldO_s, v_gf, setO_s, v_gs, optR_s, al_n, al_c, pi_t, pi_f, pi_n, wi_n, wi_c,
  add_i, sub_i, mod_i, div_i, pow_60, pow_18, lt_i, le_i, gt_i, ge_i, mul_i, is_n, nis_n, is_i, nis_i, is_t, nis_t, ix_t, ix_l, ix_s, set0, set1, set2, len_t, len_l, len_s, abs_i, int_i, int_b, sl_l, sl_t, fz_l, fz_t, fz_d, fz_i, seq_t, seq_l, zip_l, zip_t, enum_l, tuple_l, tuple_t, list_l, list_t, neg_i, isa_isInt_non, isa_isInt_bl, isa_isInt_int, isa_isInt_str, isa_isInt_tup, isa_isInt_lst, isa_isInt_scr, isa_isInt_dct, isa_isBool_non, isa_isBool_bl, isa_isBool_int, isa_isBool_str, isa_isBool_tup, isa_isBool_lst, isa_isBool_scr, isa_isBool_dct, isa_isStr_non, isa_isStr_bl, isa_isStr_int, isa_isStr_str, isa_isStr_tup, isa_isStr_lst, isa_isStr_scr, isa_isStr_dct, isa_isTuple_non, isa_isTuple_bl, isa_isTuple_int, isa_isTuple_str, isa_isTuple_tup, isa_isTuple_lst, isa_isTuple_scr, isa_isTuple_dct, isa_isList_non, isa_isList_bl, isa_isList_int, isa_isList_str, isa_isList_tup, isa_isList_lst, isa_isList_scr, isa_isList_dct, isa_isDict_non, isa_isDict_bl, isa_isDict_int, isa_isDict_str, isa_isDict_tup, isa_isDict_lst, isa_isDict_scr, isa_isDict_dct, eq_i, ne_i, eq_s, ne_s, fzn_1, fzn_2, fzn_3, fzn_4, fzn_5, fzn_6, fzn_7, fzn_8, fzn_9, fzn_s, fznL_n, fznL_c, fznK_n, fznK_c, fznF_n, fznF_c, sz0, sz1, sz2, sz3, sz4, sz5, sz6, sz7, sz8, pk1, pk2, pk3, pk4, fzL_n, fzL_c, fz_int, fz_bl, fz_str, fz_non, putD_n, putD_c, at0, at1, at2, at3, ix0, ix1, ix2, Bool.not_true, Bool.not_false, Bool.true_and, Bool.and_true, Bool.false_and, Bool.and_false, Bool.or_true, Bool.true_or, Bool.false_or, Bool.or_false, if_true, if_false, Bool.false_eq_true, decide_true, decide_false, and_self, and_true, true_and, not_true_eq_false, not_false_eq_true, ne_eq, false_and, and_false, eq_self])
local macro_rules | `(tactic| walk_at "env") => `(tactic| simp only [List.map_cons, List.map_nil, List.cons_append, List.nil_append, List.replicate_succ, List.replicate_zero])
/-! ### tables and machines -/
theorem TabOk.ops {c L : Nat} {rs : List Row} (h : TabOk c L rs) : (rs.map (·.op)).Pairwise (· < ·) := List.pairwise_map.mpr h.asc
theorem areinst_spec {c L : Nat} {rs : List Row} (h : TabOk c L rs) (hL : L ≤ 12) : m_are_instructions [.tup (rs.map Row.d), .int c] = .ok (.bl true) [] := by
  have hl : rs.length ≤ 256 := Nat.le_trans h.len h.hi
  have hs : rs.length ≤ sizeLine := Nat.le_trans hl (by decide)
  have z1 := fznL_rows rs
  have z2 := seq_rows rs
  have e0 : fEq2 (.tup (rs.map Row.d)) (.tup []) = some (.bl false) := eq_nil (toPyL_map fun r _ => row_py r) (plainA_map fun r hr => row_plain (h.row r hr).nm) (by simpa using h.ne)
  have hA := h.ops
  have hc3 : cp_are_instructions_3 [some (.tup (rs.map Row.d)), some (.int c), none, none] = .ok (.lst true (rs.map fun _ => .bl true)) [some (.tup (rs.map Row.d)), some (.int c), none, none] := by
    unfold cp_are_instructions_3
    refine eLc_map rs Row.d _ (e := [some (.tup (rs.map Row.d)), some (.int c), none, none]) ?_ rfl hs fun r hr => ⟨[some (.tup (rs.map Row.d)), some (.int c), none, some r.d], rfl, ?_, rfl⟩
    · walk_at "ev"
    · have := isinst_spec (h.row r hr) hL
      have := fzn_row r
      unfold ce_are_instructions_2
      walk_at "ev"
  have hc2 : cp_are_instructions_2 [some (.tup (rs.map Row.d)), some (.int c), none, none] = .ok (.set (.non :: (rs.map (·.nm)).map .str)) [some (.tup (rs.map Row.d)), some (.int c), none, none] := by
    unfold cp_are_instructions_2
    refine eSc_strs rs Row.d (·.nm) h.ne (e := [some (.tup (rs.map Row.d)), some (.int c), none, none]) ?_ rfl (by omega) (fun r hr => ⟨[some (.tup (rs.map Row.d)), some (.int c), none, some r.d], rfl, ?_, rfl⟩) h.nms
    · walk_at "ev"
    · unfold Row.d
      walk_at "ev"
  have hc1 : ∀ s : D, cp_are_instructions_1 [some (.tup (rs.map Row.d)), some (.int c), some s, none] = .ok (.lst true ((rs.map (·.op)).map fun n : Nat => .int n)) [some (.tup (rs.map Row.d)), some (.int c), some s, none] := by
    intro s
    unfold cp_are_instructions_1
    rw [List.map_map]
    refine eLc_map rs Row.d _ (e := [some (.tup (rs.map Row.d)), some (.int c), some s, none]) ?_ rfl hs fun r hr => ⟨[some (.tup (rs.map Row.d)), some (.int c), some s, some r.d], rfl, ?_, rfl⟩
    · walk_at "ev"
    · unfold ce_are_instructions_1 Row.d
      walk_at "ev"
      rfl
  have ha := all_t (o := true) (l := rs)
  have z3 : fzL ((rs.map (·.op)).map fun n : Nat => D.int n) = (rs.map (·.op)).map fun n : Nat => D.int n := fz_sameL _ fznL_ints
  have hasc := asc_spec hA (by simpa using (by omega : rs.length ≤ 1000))
  have e1 : fLen [.set (.non :: (rs.map (·.nm)).map D.str)] = some (.int rs.length) := by simp [fLen]
  have e2 : fLen [.tup (rs.map Row.d)] = some (.int rs.length) := by simp [fLen]
  unfold m_are_instructions b_are_instructions
  rw [v_fn]
  clear hl hs hA
  generalize hX : rs.map Row.d = X at *
  generalize hY : ((rs.map (·.op)).map fun n : Nat => D.int n) = Y at *
  generalize hS : (rs.map (·.nm)).map D.str = S at *
  walk_at "ev"
def opKv (r : Row) : D × D := (.int r.op, r.d)
def machD (o : Bool) (c : Nat) (rs : List Row) : D := .ins o "InstructionSet" [("byte_count", .int c), ("instructions", .tup (rs.map Row.d)), ("by_opcode", .dct o (rs.map opKv))]
theorem machine_spec {c L : Nat} {rs : List Row} (h : TabOk c L rs) (hL : L ≤ 12) : m_l_machine [tabD c rs] = .ok (machD true c rs) [] := by
  have hs : rs.length ≤ sizeLine := Nat.le_trans (Nat.le_trans h.len h.hi) (by decide)
  have h1 := areinst_spec h hL
  have h2 := isint_spec (x := (c : Int)) (lo := 2) (hi := 256) (by have := h.lo; omega) (by have := h.hi; omega)
  have z1 := fznL_rows rs
  have z2 := seq_rows rs
  have key : ∀ s : D, cp_InstructionSet_init_1 [some s, some (.int c), some (.tup (rs.map Row.d)), none] = .ok (.dct true (rs.map opKv)) [some s, some (.int c), some (.tup (rs.map Row.d)), none] := by
    intro s
    unfold cp_InstructionSet_init_1
    refine eDc_map rs Row.d (fun r => .int r.op) (fun r => r.d) (e := [some s, some (.int c), some (.tup (rs.map Row.d)), none]) ?_ rfl hs (fun r hr => ⟨[some s, some (.int c), some (.tup (rs.map Row.d)), some r.d], rfl, ?_, ?_, rfl⟩) (fun r _ => ⟨rfl, rfl⟩) (h.asc.imp fun {a b} hab => ?_)
    · walk_at "ev"
    · unfold Row.d
      walk_at "ev"
    · have := fzn_row r
      walk_at "ev"
    · exact beq_eq_false_iff_ne.mpr (by omega)
  have c1 : (["InstructionSet"] : List String).contains "InstructionSet" = true := by decide
  have q1 : ([] : List (String × D)).length < 1000 := by decide
  have q2 : ∀ {a : String × D}, ([a] : List (String × D)).length < 1000 := fun {a} => by simp
  have q3 : ∀ {a b : String × D}, ([a, b] : List (String × D)).length < 1000 := fun {a b} => by simp
  have n1 : ¬ ("byte_count" : String) = "instructions" := by decide
  have n2 : ¬ ("byte_count" : String) = "by_opcode" := by decide
  have n3 : ¬ ("instructions" : String) = "by_opcode" := by decide
  unfold m_l_machine b_l_machine tabD machD
  rw [v_fn]
  clear hs h hL
  generalize hX : rs.map Row.d = X at *
  generalize hY : rs.map opKv = Y at *
  walk_at "ev"
  unfold m_InstructionSet_init b_InstructionSet_init
  rw [v_fn]
  walk_at "ev"
end Mi

set_option maxHeartbeats 4000000
set_option exponentiation.threshold 100000
namespace Mi
open PySem PySem.Spec PyProof.Rows L2 RZ Ov PpSet
local macro_rules | `(tactic| walk_at "ev") => `(tactic| simp -dsimp only [*, b_bo, b_b0, v_bo, v_b0, v_c, v_v, v_mv, v_vk, v_k, v_fk, v_nil, v_cons, v_1, v_2, v_L, v_bB, asB_b, v_bAnd, v_bOr, v_bNot, v_bYes, v_if, v_and, v_or, v_not, v_tup, v_lst, v_fld, asI_i, v_oN, v_oS, optI_i, v_sl, v_rg1, v_rg2, v_lrg, v_trg, chainK_b, v_chain,
  Fl.k_nx, Fl.k_rt, Fl.k_bk, Fl.k_ct, v_seq, v_pass, v_bk, v_ct, v_ret, v_retN, v_expr, v_sif, v_asg, optE_s, v_gN, v_gT, v_gsN, v_gsC, Option.bind_some, v_par, v_par3, v_aug, v_put, v_sfld, v_for, optL_s, v_iSeq, v_iOf, v_iStr, v_lc, v_mList, Rf.back_ok, optP_s, v_callF, v_call, v_aN, v_aE, v_aI, v_fN, v_fE, v_fI, optD_s, Option.map_some,
  v_kN, v_kE, v_kI, v_methE, v_methI, Rf.newB_ok, v_new, fin_rt, fin_nx, getR_s, liftK_s, R.ite_t, R.ite_f, List.getElem?_cons_zero, List.getElem?_cons_succ, List.set_cons_zero, List.set_cons_succ, List.map_cons, List.map_nil, List.cons_append, List.nil_append, List.replicate_succ, List.replicate_zero, k2_s, k3_s, insK_s, strK_s, mlK_s, optF_s, joinO_s, v_gp, v_gq, fldO_s, v_gf, setO_s, v_gs, optR_s, al_n, al_c, pi_t, pi_f, pi_n, wi_n, wi_c,
  add_i, sub_i, mod_i, div_i, pow_60, pow_18, lt_i, le_i, gt_i, ge_i, mul_i, is_n, nis_n, is_i, nis_i, is_t, nis_t, ix_t, ix_l, ix_s, set0, set1, set2, len_t, len_l, len_s, abs_i, int_i, int_b, sl_l, sl_t, fz_l, fz_t, fz_d, fz_i, seq_t, seq_l, zip_l, zip_t, enum_l, tuple_l, tuple_t, list_l, list_t, neg_i, isa_isInt_non, isa_isInt_bl, isa_isInt_int, isa_isInt_str, isa_isInt_tup, isa_isInt_lst, isa_isInt_scr, isa_isInt_dct, isa_isBool_non, isa_isBool_bl, isa_isBool_int, isa_isBool_str, isa_isBool_tup, isa_isBool_lst, isa_isBool_scr, isa_isBool_dct, isa_isStr_non, isa_isStr_bl, isa_isStr_int, isa_isStr_str, isa_isStr_tup, isa_isStr_lst, isa_isStr_scr, isa_isStr_dct, isa_isTuple_non, isa_isTuple_bl, isa_isTuple_int, isa_isTuple_str, isa_isTuple_tup, isa_isTuple_lst, isa_isTuple_scr, isa_isTuple_dct, isa_isList_non, isa_isList_bl, isa_isList_int, isa_isList_str, isa_isList_tup, isa_isList_lst, isa_isList_scr, isa_isList_dct, isa_isDict_non, isa_isDict_bl, isa_isDict_int, isa_isDict_str, isa_isDict_tup, isa_isDict_lst, isa_isDict_scr, isa_isDict_dct, eq_i, ne_i, eq_s, ne_s, fzn_1, fzn_2, fzn_3, fzn_4, fzn_5, fzn_6, fzn_7, fzn_8, fzn_9, fzn_s, fznL_n, fznL_c, fznK_n, fznK_c, fznF_n, fznF_c, sz0, sz1, sz2, sz3, sz4, sz5, sz6, sz7, sz8, pk1, pk2, pk3, pk4, fzL_n, fzL_c, fz_int, fz_bl, fz_str, fz_non, putD_n, putD_c, at0, at1, at2, at3, ix0, ix1, ix2, Bool.not_true, Bool.not_false, Bool.true_and, Bool.and_true, Bool.false_and, Bool.and_false, Bool.or_true, Bool.true_or, Bool.false_or, Bool.or_false, if_true, if_false, Bool.false_eq_true, decide_true, decide_false, and_self, and_true, true_and, not_true_eq_false, not_false_eq_true, ne_eq, false_and, and_false, eq_self])
local macro_rules | `(tactic| walk_at "env") => `(tactic| simp only [List.map_cons, List.map_nil, List.cons_append, List.nil_append, List.replicate_succ, List.replicate_zero])
/-! ### queries of a table and of a machine -/
def lng (rs : List Row) : Nat := (maxI (rs.map fun r => (r.ln : Int))).toNat
theorem lng_spec {rs : List Row} (h : rs ≠ []) : maxI (rs.map fun r => (r.ln : Int)) = (lng rs : Int) ∧ (∃ r ∈ rs, r.ln = lng rs) ∧ ∀ r ∈ rs, r.ln ≤ lng rs := by
  have hn : rs.map (fun r => (r.ln : Int)) ≠ [] := by simpa using h
  obtain ⟨h1, h2⟩ := maxI_spec hn
  obtain ⟨r, hr, he⟩ := List.mem_map.mp h1
  have e : maxI (rs.map fun r => (r.ln : Int)) = (lng rs : Int) := by unfold lng; omega
  refine ⟨e, ⟨r, hr, by omega⟩, fun q hq => ?_⟩
  have := h2 (q.ln : Int) (List.mem_map.mpr ⟨q, hq, rfl⟩)
  omega
theorem TabOk.lng {c L : Nat} {rs : List Row} (h : TabOk c L rs) : 1 ≤ Mi.lng rs ∧ Mi.lng rs ≤ L := by
  obtain ⟨_, ⟨r, hr, e⟩, _⟩ := lng_spec h.ne
  have := (h.row r hr).l0
  have := (h.row r hr).l1
  omega
theorem l_longest_spec {c L : Nat} {rs : List Row} (h : TabOk c L rs) : m_l_longest [tabD c rs] = .ok (.int (lng rs)) [] := by
  have hs : rs.length ≤ sizeLine := Nat.le_trans (Nat.le_trans h.len h.hi) (by decide)
  have z1 := fznL_rows rs
  have z2 := seq_rows rs
  have hc : cp_l_longest_1 [some (tabD c rs), none, none, none, none] = .ok (.lst true (rs.map fun r => .int r.ln)) [some (tabD c rs), none, none, none, none] := by
    unfold cp_l_longest_1
    refine eLc_map rs Row.d _ (e := [some (tabD c rs), none, none, none, none]) ?_ rfl hs fun r hr => ⟨[some (tabD c rs), some (.int r.op), some (.str r.nm), some (.int r.ln), some (.bl r.en)], rfl, ?_, rfl⟩
    · unfold tabD
      walk_at "ev"
    · unfold ce_l_longest_1
      walk_at "ev"
  have hm := max_n (o := true) (y := fun r : Row => r.ln) h.ne
  have he := (lng_spec h.ne).1
  unfold m_l_longest b_l_longest
  rw [v_fn]
  clear hs h
  walk_at "ev"
theorem fz_mach {c : Nat} {rs : List Row} : fz (machD true c rs) = machD false c rs := by
  have e : fzK (rs.map opKv) = rs.map opKv := fz_sameK _ (by
    induction rs with
    | nil => rfl
    | cons r rs ih => rw [List.map_cons, opKv, fznK, ih, fzn_row]; rfl)
  unfold machD
  simp only [fz, fzF, e, fz_sameL _ (fznL_rows rs)]
theorem fznK_ops (rs : List Row) : fznK (rs.map opKv) = true := by
  induction rs with
  | nil => rfl
  | cons r rs ih => rw [List.map_cons, opKv, fznK, ih, fzn_row]; rfl
theorem fzn_mach {c : Nat} {rs : List Row} : fzn (machD false c rs) = true := by
  unfold machD
  simp only [fzn, fznF, fznL_rows rs, fznK_ops rs]
  rfl
theorem fzn_mach' {c : Nat} {rs : List Row} : fzn (machD true c rs) = false := by
  unfold machD
  simp only [fzn, fznF]
  rfl
theorem recv_mach {o : Bool} {c : Nat} {rs : List Row} {m : String} (h1 : m ≠ "byte_count") (h2 : m ≠ "instructions") (h3 : m ≠ "by_opcode") : recv "InstructionSet" m (machD o c rs) = true := by
  unfold machD recv
  simp only [beq_self_eq_true, List.all_cons, List.all_nil, Bool.true_and, Bool.and_true, Bool.and_eq_true, Bool.not_eq_true', beq_eq_false_iff_ne]
  exact ⟨fun e => h1 e.symm, fun e => h2 e.symm, fun e => h3 e.symm⟩
theorem lk1 {a b d : D} : ([("byte_count", a), ("instructions", b), ("by_opcode", d)] : List (String × D)).lookup "instructions" = some b := by simp [List.lookup]
theorem lk2 {a b d : D} : ([("byte_count", a), ("instructions", b), ("by_opcode", d)] : List (String × D)).lookup "by_opcode" = some d := by simp [List.lookup]
theorem lk0 {a b d : D} : ([("byte_count", a), ("instructions", b), ("by_opcode", d)] : List (String × D)).lookup "byte_count" = some a := by simp [List.lookup]
theorem cl1 : (["InstructionSet"] : List String).contains "InstructionSet" = true := by decide
theorem longest_spec {c L : Nat} {o : Bool} {rs : List Row} (h : TabOk c L rs) : m_InstructionSet_longest [machD o c rs] = .ok (.int (lng rs)) [] := by
  have hs : rs.length ≤ sizeLine := Nat.le_trans (Nat.le_trans h.len h.hi) (by decide)
  have z1 := fznL_rows rs
  have z2 := seq_rows rs
  have hc : cp_InstructionSet_longest_1 [some (machD o c rs), none, none, none, none] = .ok (.lst true (rs.map fun r => .int r.ln)) [some (machD o c rs), none, none, none, none] := by
    unfold cp_InstructionSet_longest_1
    refine eLc_map rs Row.d _ (e := [some (machD o c rs), none, none, none, none]) ?_ rfl hs fun r hr => ⟨[some (machD o c rs), some (.int r.op), some (.str r.nm), some (.int r.ln), some (.bl r.en)], rfl, ?_, rfl⟩
    · unfold machD
      have := cl1
      have := @lk1
      walk_at "ev"
    · unfold ce_InstructionSet_longest_1
      walk_at "ev"
  have hm := max_n (o := true) (y := fun r : Row => r.ln) h.ne
  have he := (lng_spec h.ne).1
  unfold m_InstructionSet_longest b_InstructionSet_longest
  rw [v_fn]
  clear hs h
  walk_at "ev"
def lenAt (rs : List Row) (b : Nat) : Nat := match rs.find? fun r => decide (r.op = b) with | some r => r.ln | none => 0
theorem lenAt_le {c L : Nat} {rs : List Row} (h : TabOk c L rs) (b : Nat) : lenAt rs b ≤ Mi.lng rs := by
  unfold lenAt
  cases e : rs.find? fun r => decide (r.op = b) with
  | none => exact Nat.zero_le _
  | some r => exact (lng_spec h.ne).2.2 r (List.mem_of_find?_eq_some e)
theorem look_op {b : Nat} : ∀ {rs : List Row}, lookD (rs.map opKv) (.int b) = (rs.find? fun r => decide (r.op = b)).map Row.d
  | [] => rfl
  | r :: rs => by
    have ih := look_op (b := b) (rs := rs)
    unfold lookD at ih ⊢
    rw [List.map_cons, List.find?_cons, List.find?_cons]
    by_cases h : r.op = b
    · have e : eqF (opKv r).1 (.int (b : Int)) = true := by
        show ((r.op : Int) == (b : Int)) = true
        rw [h]; exact beq_self_eq_true _
      rw [e, decide_eq_true h]
      rfl
    · have e : eqF (opKv r).1 (.int (b : Int)) = false := by
        show ((r.op : Int) == (b : Int)) = false
        exact beq_eq_false_iff_ne.mpr (by omega)
      rw [e, decide_eq_false h]
      exact ih
theorem length_at_spec {c : Nat} {o : Bool} {rs : List Row} {b : Nat} : m_InstructionSet_length_at [machD o c rs, .int b] = .ok (.int (lenAt rs b)) [] := by
  have h1 := look_op (b := b) (rs := rs)
  have h3 : fIn (.int (b : Int)) (.dct o (rs.map opKv)) = some (.bl (lookD (rs.map opKv) (.int b)).isSome) := rfl
  have h4 : fIx (.dct o (rs.map opKv)) (.int (b : Int)) = lookD (rs.map opKv) (.int b) := rfl
  have := cl1
  have := @lk2
  unfold m_InstructionSet_length_at b_InstructionSet_length_at machD lenAt
  rw [v_fn]
  cases e : rs.find? fun r => decide (r.op = b) with
  | none =>
    rw [e] at h1
    rw [h1] at h3 h4
    simp only [Option.map_none, Option.isSome_none] at h3 h4
    walk_at "ev"
    rfl
  | some r =>
    rw [e] at h1
    rw [h1] at h3 h4
    simp only [Option.map_some, Option.isSome_some, Row.d] at h3 h4
    walk_at "ev"
theorem l_length_at_spec {c L : Nat} {rs : List Row} {b : Nat} (h : TabOk c L rs) : m_l_length_at [tabD c rs, .int b] = .ok (.int (lenAt rs b)) [] := by
  have key : ∀ (l : List Row) (e : Env), (∃ x y z t, e = [some (tabD c rs), some (.int b), x, y, z, t]) → ∃ e', forL (gT (gsCons (gN 2) (gsCons (gN 3) (gsCons (gN 4) (gsCons (gN 5) gsNil))))) lb_l_length_at_1 (l.map Row.d) e = .ok (match l.find? fun r => decide (r.op = b) with | some r => .rt (.int r.ln) | none => .nx) e' := by
    intro l
    induction l with
    | nil => intro e _; exact ⟨e, rfl⟩
    | cons r l ih =>
      rintro _ ⟨x, y, z, t, rfl⟩
      have hg : gT (gsCons (gN 2) (gsCons (gN 3) (gsCons (gN 4) (gsCons (gN 5) gsNil)))) r.d [some (tabD c rs), some (.int b), x, y, z, t] = some [some (tabD c rs), some (.int b), some (.int r.op), some (.str r.nm), some (.int r.ln), some (.bl r.en)] := rfl
      rw [List.map_cons, List.find?_cons]
      by_cases hr : r.op = b
      · have hb : (r.op : Int) = (b : Int) := by omega
        refine ⟨[some (tabD c rs), some (.int b), some (.int r.op), some (.str r.nm), none, some (.bl r.en)], ?_⟩
        rw [decide_eq_true hr]
        refine for_ret hg ?_
        unfold lb_l_length_at_1
        walk_at "ev"
      · have hb : ¬ (r.op : Int) = (b : Int) := by omega
        obtain ⟨e', he⟩ := ih _ ⟨some (.int r.op), some (.str r.nm), some (.int r.ln), some (.bl r.en), rfl⟩
        refine ⟨e', ?_⟩
        rw [decide_eq_false hr, for_cons hg (e' := [some (tabD c rs), some (.int b), some (.int r.op), some (.str r.nm), some (.int r.ln), some (.bl r.en)]) (by unfold lb_l_length_at_1; walk_at "ev")]
        exact he
  obtain ⟨e', he⟩ := key rs [some (tabD c rs), some (.int b), none, none, none, none] ⟨_, _, _, _, rfl⟩
  have z1 := fznL_rows rs
  have z2 := seq_rows rs
  have hl : lp_l_length_at_1 [some (tabD c rs), some (.int b), none, none, none, none] = .ok (match rs.find? fun r => decide (r.op = b) with | some r => .rt (.int r.ln) | none => .nx) e' := by
    unfold lp_l_length_at_1
    rw [← he]
    unfold tabD
    walk_at "ev"
  clear he key h
  unfold m_l_length_at b_l_length_at lenAt
  rw [v_fn]
  cases e : rs.find? fun r => decide (r.op = b) with
  | none =>
    rw [e] at hl
    walk_at "ev"
    rfl
  | some r =>
    rw [e] at hl
    walk_at "ev"
end Mi

set_option maxHeartbeats 4000000
set_option exponentiation.threshold 100000
namespace Mi
open PySem PySem.Spec PyProof.Rows L2 RZ Ov PpSet
local macro_rules | `(tactic| walk_at "ev") => `(tactic| simp -dsimp only [*, b_bo, b_b0, v_bo, v_b0, v_c, v_v, v_mv, v_vk, v_k, v_fk, v_nil, v_cons, v_1, v_2, v_L, v_bB, asB_b, v_bAnd, v_bOr, v_bNot, v_bYes, v_if, v_and, v_or, v_not, v_tup, v_lst, v_fld, asI_i, v_oN, v_oS, optI_i, v_sl, v_rg1, v_rg2, v_lrg, v_trg, chainK_b, v_chain,
  Fl.k_nx, Fl.k_rt, Fl.k_bk, Fl.k_ct, v_seq, v_pass, v_bk, v_ct, v_ret, v_retN, v_expr, v_sif, v_asg, optE_s, v_gN, v_gT, v_gsN, v_gsC, Option.bind_some, v_par, v_par3, v_aug, v_put, v_sfld, v_for, optL_s, v_iSeq, v_iOf, v_iStr, v_lc, v_mList, Rf.back_ok, optP_s, v_callF, v_call, v_aN, v_aE, v_aI, v_fN, v_fE, v_fI, optD_s, Option.map_some,
  v_kN, v_kE, v_kI, v_methE, v_methI, Rf.newB_ok, v_new, fin_rt, fin_nx, getR_s, liftK_s, R.ite_t, R.ite_f, List.getElem?_cons_zero, List.getElem?_cons_succ, List.set_cons_zero, List.set_cons_succ, List.map_cons, List.map_nil, List.cons_append, List.nil_append, List.replicate_succ, List.replicate_zero, k2_s, k3_s, insK_s, strK_s, mlK_s, optF_s, joinO_s, v_gp, v_gq, fldO_s, v_gf, setO_s, v_gs, optR_s, al_n, al_c, pi_t, pi_f, pi_n, wi_n, wi_c,
  add_i, sub_i, mod_i, div_i, pow_60, pow_18, lt_i, le_i, gt_i, ge_i, mul_i, is_n, nis_n, is_i, nis_i, is_t, nis_t, ix_t, ix_l, ix_s, set0, set1, set2, len_t, len_l, len_s, abs_i, int_i, int_b, sl_l, sl_t, fz_l, fz_t, fz_d, fz_i, seq_t, seq_l, zip_l, zip_t, enum_l, tuple_l, tuple_t, list_l, list_t, neg_i, isa_isInt_non, isa_isInt_bl, isa_isInt_int, isa_isInt_str, isa_isInt_tup, isa_isInt_lst, isa_isInt_scr, isa_isInt_dct, isa_isBool_non, isa_isBool_bl, isa_isBool_int, isa_isBool_str, isa_isBool_tup, isa_isBool_lst, isa_isBool_scr, isa_isBool_dct, isa_isStr_non, isa_isStr_bl, isa_isStr_int, isa_isStr_str, isa_isStr_tup, isa_isStr_lst, isa_isStr_scr, isa_isStr_dct, isa_isTuple_non, isa_isTuple_bl, isa_isTuple_int, isa_isTuple_str, isa_isTuple_tup, isa_isTuple_lst, isa_isTuple_scr, isa_isTuple_dct, isa_isList_non, isa_isList_bl, isa_isList_int, isa_isList_str, isa_isList_tup, isa_isList_lst, isa_isList_scr, isa_isList_dct, isa_isDict_non, isa_isDict_bl, isa_isDict_int, isa_isDict_str, isa_isDict_tup, isa_isDict_lst, isa_isDict_scr, isa_isDict_dct, eq_i, ne_i, eq_s, ne_s, fzn_1, fzn_2, fzn_3, fzn_4, fzn_5, fzn_6, fzn_7, fzn_8, fzn_9, fzn_s, fznL_n, fznL_c, fznK_n, fznK_c, fznF_n, fznF_c, sz0, sz1, sz2, sz3, sz4, sz5, sz6, sz7, sz8, pk1, pk2, pk3, pk4, fzL_n, fzL_c, fz_int, fz_bl, fz_str, fz_non, putD_n, putD_c, at0, at1, at2, at3, ix0, ix1, ix2, Bool.not_true, Bool.not_false, Bool.true_and, Bool.and_true, Bool.false_and, Bool.and_false, Bool.or_true, Bool.true_or, Bool.false_or, Bool.or_false, if_true, if_false, Bool.false_eq_true, decide_true, decide_false, and_self, and_true, true_and, not_true_eq_false, not_false_eq_true, ne_eq, false_and, and_false, eq_self])
local macro_rules | `(tactic| walk_at "env") => `(tactic| simp only [List.map_cons, List.map_nil, List.cons_append, List.nil_append, List.replicate_succ, List.replicate_zero])
/-! ### names of a table -/
def ltr (f a : Nat) : Nat := abc.cps.toList.getD ((f + 5 * a) % 26) 0
def sfx (c : Nat) : Nat := if c = 122 then 121 else 122
structure NameIs (x : Str) (f a : Nat) : Prop where
  is : ∃ k, 1 ≤ k ∧ k ≤ 3 ∧ x.cps.toList = List.replicate k (ltr f a) ++ List.replicate (a / 26) (sfx (ltr f a))
theorem abc_len : abc.cps.toList.length = 26 := by decide
theorem abc_nd : abc.cps.toList.Nodup := by decide
theorem ltr_get {f a : Nat} : abc.cps.toList[(f + 5 * a) % 26]? = some (ltr f a) := by
  have h : (f + 5 * a) % 26 < abc.cps.toList.length := by rw [abc_len]; exact Nat.mod_lt _ (by decide)
  unfold ltr
  rw [List.getD_eq_getElem?_getD, List.getElem?_eq_getElem h]
  rfl
theorem ltr_mem {f a : Nat} : ltr f a ∈ abc.cps.toList := List.mem_of_getElem? ltr_get
theorem sfx_mem {c : Nat} : sfx c ∈ abc.cps.toList := by
  unfold sfx
  split <;> decide
theorem sfx_ne {c : Nat} : sfx c ≠ c := by
  unfold sfx
  split <;> omega
theorem ltr_inj {f a b : Nat} (h : ltr f a = ltr f b) : a % 26 = b % 26 := by
  have ha : (f + 5 * a) % 26 < abc.cps.toList.length := by rw [abc_len]; exact Nat.mod_lt _ (by decide)
  have : (f + 5 * a) % 26 = (f + 5 * b) % 26 := (List.getElem?_inj ha abc_nd).mp (by rw [ltr_get (f := f) (a := a), ltr_get (f := f) (a := b), h])
  omega
theorem NameIs.len {x : Str} {f a : Nat} (h : NameIs x f a) : 1 ≤ x.length ∧ x.length ≤ 3 + a / 26 := by
  obtain ⟨k, h1, h2, h3⟩ := h.is
  have : x.length = x.cps.toList.length := rfl
  rw [this, h3]
  simp
  omega
theorem NameIs.ok {x : Str} {f a : Nat} (h : NameIs x f a) (ha : a < 150) : NameOk x := by
  obtain ⟨h4, h5⟩ := h.len
  obtain ⟨k, h1, h2, h3⟩ := h.is
  refine ⟨h4, by omega, fun c hc => ?_⟩
  rw [h3, List.mem_append] at hc
  rcases hc with hc | hc
  · rw [List.eq_of_mem_replicate hc]; exact ltr_mem
  · rw [List.eq_of_mem_replicate hc]; exact sfx_mem
theorem NameIs.inj {x : Str} {f a b : Nat} (h : NameIs x f a) (g : NameIs x f b) : a = b := by
  obtain ⟨k, h1, h2, h3⟩ := h.is
  obtain ⟨j, g1, g2, g3⟩ := g.is
  obtain ⟨k, rfl⟩ : ∃ i, k = i + 1 := ⟨k - 1, by omega⟩
  obtain ⟨j, rfl⟩ : ∃ i, j = i + 1 := ⟨j - 1, by omega⟩
  have e : ltr f a = ltr f b := by
    rw [h3] at g3
    simp only [List.replicate_succ, List.cons_append, List.cons.injEq] at g3
    exact g3.1
  have e1 := ltr_inj e
  have cnt : ∀ (n m c : Nat), (List.replicate n c ++ List.replicate m (sfx c)).countP (fun y => decide (y ≠ c)) = m := by
    intro n m c
    have := sfx_ne (c := c)
    rw [List.countP_append, List.countP_replicate, List.countP_replicate]
    simp [this]
  have e2 := cnt (k + 1) (a / 26) (ltr f a)
  rw [← h3, g3, e] at e2
  have e3 := cnt (j + 1) (b / 26) (ltr f b)
  omega
theorem mul1 {c n : Nat} : (Txt.mul ⟨#[c]⟩ (n : Int)).cps.toList = List.replicate n c := by
  have key : ∀ (n : Nat) (acc : Array Nat), ((List.replicate n #[c]).foldl (· ++ ·) acc).toList = acc.toList ++ List.replicate n c := by
    intro n
    induction n with
    | zero => intro acc; simp
    | succ n ih =>
      intro acc
      rw [List.replicate_succ, List.foldl_cons, ih, List.replicate_succ]
      simp
  unfold Txt.mul
  split
  · have : n = 0 := by omega
    subst this
    rfl
  · split
    · rename_i h1 h2
      have h3 : ((⟨#[c]⟩ : Str).length == 0) = false := rfl
      rw [h3, Bool.or_false] at h2
      have : n = 1 := by have := eq_of_beq h2; omega
      subst this
      rfl
    · rw [show ((n : Int)).toNat = n from Int.toNat_natCast n, key]
      rfl
theorem mul_st {c n : Nat} (h : n ≤ 1000) : ∃ x, fMul (.str ⟨#[c]⟩) (.int (n : Int)) = some (.str x) ∧ x.cps.toList = List.replicate n c :=
  ⟨_, if_pos ⟨by omega, by omega, by show (1 : Nat) ≤ 1000; decide⟩, mul1⟩
theorem add_st {x y : Str} (h : x.cps.toList.length + y.cps.toList.length ≤ 1000) : ∃ z, fAdd (.str x) (.str y) = some (.str z) ∧ z.cps.toList = x.cps.toList ++ y.cps.toList := by
  refine ⟨x ++ y, if_pos (Nat.le_trans h (by decide)), ?_⟩
  show (x.cps ++ y.cps).toList = _
  simp
theorem z_eq {c : Nat} : fEq2 (.str ⟨#[c]⟩) (.str (PySem.Str.ofString "z")) = some (.bl (decide (c = 122))) := by
  rw [eq_s]
  congr 2
  have h : PySem.Str.ofString "z" = ⟨#[122]⟩ := by decide
  rw [h, decide_eq_decide]
  constructor
  · intro e; injection e with e; simpa using e
  · intro e; rw [e]
theorem row_step {N f a op L M : Nat} {b cD oD : D} {mo : Int} {found : List D} {x10 x11 x12 : Option D} (hb : Bx N b) (hN : N + 10 ≤ 2 ^ 60) (hL0 : 1 ≤ L) (hL : L ≤ 1000) (ha : a < 1000) (hf : f < 26) (hfl : found.length < 1000) :
    ∃ (r : Row) (b' : D) (y10 y11 y12 : Option D), lb_l_table_1 [some b, some (.int mo), some (.int L), some cD, some (.int M), some oD, some (.lst true found), some (.int f), some (.int a), some (.int op), x10, x11, x12] =
      .ok .nx [some b', some (.int mo), some (.int L), some cD, some (.int M), some oD, some (.lst true (found ++ [r.d])), some (.int f), some (.int a), some (.int op), y10, y11, y12] ∧ Bx (N + 10) b' ∧ r.op = op ∧ NameIs r.nm f a ∧ 1 ≤ r.ln ∧ r.ln ≤ L ∧ (a = 0 → r.en = true) := by
  have hS : found.length < sizeLine := Nat.lt_of_lt_of_le hfl (by decide)
  obtain ⟨r1, b1, t1, p1, p2, hb1⟩ := take_spec (m := 3) hb (by omega) (by decide) (by decide +kernel)
  obtain ⟨k, rfl⟩ := Int.eq_ofNat_of_zero_le p1
  obtain ⟨s1, m1, m2⟩ := mul_st (c := ltr f a) (n := 1 + k) (by omega)
  obtain ⟨s2, m3, m4⟩ := mul_st (c := sfx (ltr f a)) (n := a / 26) (by omega)
  obtain ⟨s3, m5, m6⟩ := add_st (x := s1) (y := s2) (by rw [m2, m4]; simp; omega)
  obtain ⟨r2, b2, t2, p3, p4, hb2⟩ := take_spec (m := (L : Int)) hb1 (by omega) (by omega) (by omega)
  obtain ⟨r3, b3, t3, p5, hb3⟩ := of_spec (xs := [.int 1, .int 2, .int 3, .int (1 + r2)]) hb2 (by omega) (.inl rfl) (by simp) (by simp) rfl
  obtain ⟨v, rfl, v1⟩ : ∃ v : Int, r3 = .int v ∧ 1 ≤ v := by
    simp only [List.mem_cons, List.not_mem_nil, or_false] at p5
    rcases p5 with rfl | rfl | rfl | rfl
    · exact ⟨_, rfl, by omega⟩
    · exact ⟨_, rfl, by omega⟩
    · exact ⟨_, rfl, by omega⟩
    · exact ⟨_, rfl, by omega⟩
  obtain ⟨w, hw, w1, w2⟩ : ∃ w : Nat, fMin2 [.int v, .int (L : Int)] = some (.int w) ∧ 1 ≤ w ∧ w ≤ L := by
    by_cases h : (L : Int) < v
    · exact ⟨L, by simp only [fMin2, h, if_true], by omega, by omega⟩
    · exact ⟨v.toNat, by simp only [fMin2, h, if_false]; congr 2; omega, by omega, by omega⟩
  obtain ⟨r4, b4, t4, p6, p7, hb4⟩ := take_spec (m := 2) hb3 (by omega) (by decide) (by decide +kernel)
  have i1 : fIx (.str (PySem.Str.ofString "abcdefghijklmnopqrstuvwxyz")) (.int (((f : Int) + 5 * (a : Int)) % 26)) = some (.str ⟨#[ltr f a]⟩) := by
    have e : ((f : Int) + 5 * (a : Int)) % 26 = (((f + 5 * a) % 26 : Nat) : Int) := by omega
    rw [e]
    show (if (PySem.Str.ofString "abcdefghijklmnopqrstuvwxyz").length ≤ sizeLine then (atI (PySem.Str.ofString "abcdefghijklmnopqrstuvwxyz").cps.toList (((f + 5 * a) % 26 : Nat) : Int)).map fun c => D.str ⟨#[c]⟩ else none) = _
    rw [if_pos (by decide), show (PySem.Str.ofString "abcdefghijklmnopqrstuvwxyz") = abc from rfl, atI_nat ltr_get]
    rfl
  have i2 : mulOk 5 (a : Int) = true := mulOk_s (by omega) (by decide +kernel) (by omega) (lt_k (k := 1000) (by omega))
  have i3 : (0 : Int) < 26 := by decide
  have i4 : (26 : Int).natAbs.log2 < 9000 := by decide +kernel
  have i5 : (a : Int) / 26 = ((a / 26 : Nat) : Int) := by omega
  have i6 : (1 : Int) + (k : Int) = ((1 + k : Nat) : Int) := by omega
  obtain ⟨z, i7, i8⟩ : ∃ z : Bool, decide ((⟨#[ltr f a]⟩ : Str) = PySem.Str.ofString "z") = z ∧ fMul (.str (if z = true then PySem.Str.ofString "y" else PySem.Str.ofString "z")) (.int ((a / 26 : Nat) : Int)) = some (.str s2) := by
    have e1 : PySem.Str.ofString "y" = ⟨#[121]⟩ := by decide
    have e2 : PySem.Str.ofString "z" = ⟨#[122]⟩ := by decide
    by_cases h : ltr f a = 122
    · refine ⟨true, by rw [h, e2]; exact decide_eq_true rfl, ?_⟩
      have : sfx (ltr f a) = 121 := if_pos h
      rw [this] at m3
      rw [if_pos rfl, e1, m3]
    · refine ⟨false, decide_eq_false (by rw [e2]; intro q; injection q with q; exact h (by simpa using q)), ?_⟩
      have : sfx (ltr f a) = 122 := if_neg h
      rw [this] at m3
      rw [if_neg (by decide), e2, m3]
  have nm : NameIs s3 f a := ⟨1 + k, by omega, by omega, by rw [m6, m2, m4]⟩
  clear p1 p2 p3 p4 p5 v1 p6 p7 hb1 hb2 hb hN hL0 hL ha hf hfl m2 m4 m6 m3
  unfold lb_l_table_1
  refine ⟨⟨op, s3, w, if a = 0 then true else decide (r4 = 0)⟩, if a = 0 then b3 else b4, some (.str ⟨#[ltr f a]⟩), some (.str s3), some (.int v), ?_, ?_, rfl, nm, w1, w2, fun h => if_pos h⟩
  · refine seq_nx (e := [some b, some (.int mo), some (.int L), some cD, some (.int M), some oD, some (.lst true found), some (.int f), some (.int a), some (.int op), some (.str ⟨#[ltr f a]⟩), x11, x12]) ?_ ?_
    · clear t1 t2 t3 t4 nm hb3 hb4
      walk_at "ev"
    refine seq_nx (e := [some b1, some (.int mo), some (.int L), some cD, some (.int M), some oD, some (.lst true found), some (.int f), some (.int a), some (.int op), some (.str ⟨#[ltr f a]⟩), some (.str s3), x12]) ?_ ?_
    · clear i1 t2 t3 t4 nm hb3 hb4 w1 w2
      cases z with
      | true =>
        simp only [if_true] at i8
        walk_at "ev"
      | false =>
        simp only [Bool.false_eq_true, if_false] at i8
        walk_at "ev"
    clear i1 t1 i7 i8 m1 m5 i5
    refine seq_nx (e := [some b3, some (.int mo), some (.int L), some cD, some (.int M), some oD, some (.lst true found), some (.int f), some (.int a), some (.int op), some (.str ⟨#[ltr f a]⟩), some (.str s3), some (.int v)]) ?_ ?_
    · clear t4 nm
      walk_at "ev"
    by_cases h0 : a = 0
    · subst h0
      simp only [if_true]
      have e0 : ((0 : Nat) : Int) = 0 := rfl
      have e1 : ∀ d : D, fAppend found [d] = some (.non, found ++ [d]) := fun d => if_pos hS
      unfold Row.d
      clear t2 t3 t4 nm hb3 hb4 w1 w2
      walk_at "ev"
    · simp only [if_neg h0]
      have e0 : ¬ (a : Int) = 0 := by omega
      have e1 : ∀ d : D, fAppend found [d] = some (.non, found ++ [d]) := fun d => if_pos hS
      unfold Row.d
      clear t2 t3 nm hb3 hb4 w1 w2
      walk_at "ev"
  · split
    · exact hb3.mono (by omega)
    · exact hb4.mono (by omega)
end Mi

set_option maxHeartbeats 4000000
set_option exponentiation.threshold 100000
namespace Mi
open PySem PySem.Spec PyProof.Rows L2 RZ Ov PpSet
local macro_rules | `(tactic| walk_at "ev") => `(tactic| simp -dsimp only [*, b_bo, b_b0, v_bo, v_b0, v_c, v_v, v_mv, v_vk, v_k, v_fk, v_nil, v_cons, v_1, v_2, v_L, v_bB, asB_b, v_bAnd, v_bOr, v_bNot, v_bYes, v_if, v_and, v_or, v_not, v_tup, v_lst, v_fld, asI_i, v_oN, v_oS, optI_i, v_sl, v_rg1, v_rg2, v_lrg, v_trg, chainK_b, v_chain,
  Fl.k_nx, Fl.k_rt, Fl.k_bk, Fl.k_ct, v_seq, v_pass, v_bk, v_ct, v_ret, v_retN, v_expr, v_sif, v_asg, optE_s, v_gN, v_gT, v_gsN, v_gsC, Option.bind_some, v_par, v_par3, v_aug, v_put, v_sfld, v_for, optL_s, v_iSeq, v_iOf, v_iStr, v_lc, v_mList, Rf.back_ok, optP_s, v_callF, v_call, v_aN, v_aE, v_aI, v_fN, v_fE, v_fI, optD_s, Option.map_some,
  v_kN, v_kE, v_kI, v_methE, v_methI, Rf.newB_ok, v_new, fin_rt, fin_nx, getR_s, liftK_s, R.ite_t, R.ite_f, List.getElem?_cons_zero, List.getElem?_cons_succ, List.set_cons_zero, List.set_cons_succ, List.map_cons, List.map_nil, List.cons_append, List.nil_append, List.replicate_succ, List.replicate_zero, k2_s, k3_s, insK_s, strK_s, mlK_s, optF_s, joinO_s, v_gp, v_gq, fldO_s, v_gf, setO_s, v_gs, optR_s, al_n, al_c, pi_t, pi_f, pi_n, wi_n, wi_c,
  add_i, sub_i, mod_i, div_i, pow_60, pow_18, lt_i, le_i, gt_i, ge_i, mul_i, is_n, nis_n, is_i, nis_i, is_t, nis_t, ix_t, ix_l, ix_s, set0, set1, set2, len_t, len_l, len_s, abs_i, int_i, int_b, sl_l, sl_t, fz_l, fz_t, fz_d, fz_i, seq_t, seq_l, zip_l, zip_t, enum_l, tuple_l, tuple_t, list_l, list_t, neg_i, isa_isInt_non, isa_isInt_bl, isa_isInt_int, isa_isInt_str, isa_isInt_tup, isa_isInt_lst, isa_isInt_scr, isa_isInt_dct, isa_isBool_non, isa_isBool_bl, isa_isBool_int, isa_isBool_str, isa_isBool_tup, isa_isBool_lst, isa_isBool_scr, isa_isBool_dct, isa_isStr_non, isa_isStr_bl, isa_isStr_int, isa_isStr_str, isa_isStr_tup, isa_isStr_lst, isa_isStr_scr, isa_isStr_dct, isa_isTuple_non, isa_isTuple_bl, isa_isTuple_int, isa_isTuple_str, isa_isTuple_tup, isa_isTuple_lst, isa_isTuple_scr, isa_isTuple_dct, isa_isList_non, isa_isList_bl, isa_isList_int, isa_isList_str, isa_isList_tup, isa_isList_lst, isa_isList_scr, isa_isList_dct, isa_isDict_non, isa_isDict_bl, isa_isDict_int, isa_isDict_str, isa_isDict_tup, isa_isDict_lst, isa_isDict_scr, isa_isDict_dct, eq_i, ne_i, eq_s, ne_s, fzn_1, fzn_2, fzn_3, fzn_4, fzn_5, fzn_6, fzn_7, fzn_8, fzn_9, fzn_s, fznL_n, fznL_c, fznK_n, fznK_c, fznF_n, fznF_c, sz0, sz1, sz2, sz3, sz4, sz5, sz6, sz7, sz8, pk1, pk2, pk3, pk4, fzL_n, fzL_c, fz_int, fz_bl, fz_str, fz_non, putD_n, putD_c, at0, at1, at2, at3, ix0, ix1, ix2, Bool.not_true, Bool.not_false, Bool.true_and, Bool.and_true, Bool.false_and, Bool.and_false, Bool.or_true, Bool.true_or, Bool.false_or, Bool.or_false, if_true, if_false, Bool.false_eq_true, decide_true, decide_false, and_self, and_true, true_and, not_true_eq_false, not_false_eq_true, ne_eq, false_and, and_false, eq_self])
local macro_rules | `(tactic| walk_at "env") => `(tactic| simp only [List.map_cons, List.map_nil, List.cons_append, List.nil_append, List.replicate_succ, List.replicate_zero])
/-! ### the table -/
theorem ix_n {n j : Nat} (h : j < n) : ixN n (j : Int) = some j := by
  unfold ixN
  rw [if_pos (by omega), if_pos (by omega)]
  simp
theorem erase_map {α β : Type} {f : α → β} : ∀ {l : List α} {k : Nat}, (l.map f).eraseIdx k = (l.eraseIdx k).map f
  | [], k => by simp
  | a :: l, 0 => rfl
  | a :: l, k + 1 => by rw [List.map_cons, List.eraseIdx_cons_succ, List.eraseIdx_cons_succ, List.map_cons, erase_map]
theorem pop_n {ds : List D} {k : Nat} (h : k < ds.length) (hs : ds.length < 2 ^ 60) : ∃ d, fPopAt ds [.int (k : Int)] = some (d, ds.eraseIdx k) := by
  refine ⟨ds[k], ?_⟩
  unfold fPopAt
  simp only
  rw [if_pos (by omega), ix_n h]
  simp only
  rw [List.getElem?_eq_getElem h]
abbrev tEnv (b : D) (mo L c M : Nat) (ds : List D) : Env := [some b, some (.int mo), some (.int L), some (.int c), some (.int M), some (.lst true ds), none, none, none, none, none, none, none]
theorem table_while {N mo L c M : Nat} {b : D} (hb : Bx N b) (hN : N ≤ 2 ^ 59) (hc : c ≤ 256) (hM : M ≤ c) :
    ∃ (b' : D) (ops : List Nat), lp_l_table_2 (tEnv b mo L c M ((List.range c).map fun n : Nat => .int n)) = .ok .nx (tEnv b' mo L c M (ops.map fun n : Nat => .int n)) ∧ Bx (N + 256) b' ∧ ops.Sublist (List.range c) ∧ ops.length = M := by
  let Iv : Env → Prop := fun env => ∃ (b' : D) (ops : List Nat) (k : Nat), env = tEnv b' mo L c M (ops.map fun n : Nat => .int n) ∧ Bx (N + k) b' ∧ k + ops.length ≤ c ∧ ops.Sublist (List.range c) ∧ M ≤ ops.length
  let Post : Env → Prop := fun env => ∃ (b' : D) (ops : List Nat), env = tEnv b' mo L c M (ops.map fun n : Nat => .int n) ∧ Bx (N + 256) b' ∧ ops.Sublist (List.range c) ∧ ops.length = M
  have := while_inv (c := bB (e2 fGt (eL fLen (lCons (eV 5) lNil)) (eV 4))) (m := lb_l_table_2) Iv Post (fun env : Env => match env[5]? with | some (some (D.lst _ ds)) => ds.length | _ => 0) (fun env hi => ?_) (env := tEnv b mo L c M ((List.range c).map fun n : Nat => .int n)) ⟨b, List.range c, 0, rfl, hb, by simp, List.Sublist.refl _, by simpa using hM⟩
  · obtain ⟨e, h1, b', ops, rfl, h2, h3, h4⟩ := this
    exact ⟨b', ops, h1, h2, h3, h4⟩
  · obtain ⟨b', ops, k, rfl, h1, h2, h3, h4⟩ := hi
    have el : (ops.map fun n : Nat => D.int (n : Int)).length = ops.length := List.length_map _
    by_cases h : (M : Int) < (ops.length : Int)
    · left
      obtain ⟨r, b2, t1, p1, p2, hb2⟩ := take_spec (m := (ops.length : Int)) h1 (by omega) (by omega) (by omega)
      obtain ⟨j, rfl⟩ := Int.eq_ofNat_of_zero_le p1
      obtain ⟨d, hp⟩ := pop_n (ds := ops.map fun n : Nat => D.int (n : Int)) (k := j) (by simpa using (by omega : j < ops.length)) (by rw [el]; omega)
      refine ⟨tEnv b' mo L c M (ops.map fun n : Nat => .int n), tEnv b2 mo L c M ((ops.map fun n : Nat => D.int (n : Int)).eraseIdx j), ?_, .inl ?_, ⟨b2, ops.eraseIdx j, k + 1, ?_, hb2.mono (by omega), ?_, (List.eraseIdx_sublist ..).trans h3, ?_⟩, ?_⟩
      · clear t1 hp p1 p2
        unfold tEnv
        walk_at "ev"
      · unfold lb_l_table_2 tEnv
        clear p1 p2 h
        walk_at "ev"
      · rw [erase_map]
      · rw [List.length_eraseIdx]; split <;> omega
      · rw [List.length_eraseIdx]; split <;> omega
      · show ((ops.map fun n : Nat => D.int (n : Int)).eraseIdx j).length < (ops.map fun n : Nat => D.int (n : Int)).length
        rw [List.length_eraseIdx, el]; split <;> omega
    · right
      refine ⟨tEnv b' mo L c M (ops.map fun n : Nat => .int n), ?_, b', ops, rfl, h1.mono (by omega), h3, by omega⟩
      unfold tEnv
      walk_at "ev"
theorem table_for {N mo L c M f : Nat} {b : D} {ops : List Nat} (hb : Bx N b) (hN : N ≤ 2 ^ 59) (hf : f < 26) (hL0 : 1 ≤ L) (hL : L ≤ 1000) (ho : ops.length ≤ 256) :
    ∃ (b' : D) (rs : List Row) (x8 x9 x10 x11 x12 : Option D), lp_l_table_1 [some b, some (.int mo), some (.int L), some (.int c), some (.int M), some (.lst true (ops.map fun n : Nat => .int n)), some (.lst true []), some (.int f), none, none, none, none, none] =
      .ok .nx [some b', some (.int mo), some (.int L), some (.int c), some (.int M), some (.lst false (ops.map fun n : Nat => .int n)), some (.lst true (rs.map Row.d)), some (.int f), x8, x9, x10, x11, x12] ∧ Bx (N + 2560) b' ∧ rs.map (·.op) = ops ∧
      (∀ j r, rs[j]? = some r → NameIs r.nm f j) ∧ (∀ r ∈ rs, 1 ≤ r.ln ∧ r.ln ≤ L) ∧ (∀ r, rs[0]? = some r → r.en = true) := by
  generalize hX : (ops.map fun n : Nat => D.int (n : Int)) = X
  let Iv : Nat → Env → Prop := fun i env => ∃ (b' : D) (rs : List Row) (x8 x9 x10 x11 x12 : Option D), env = [some b', some (.int mo), some (.int L), some (.int c), some (.int M), some (.lst false X), some (.lst true (rs.map Row.d)), some (.int f), x8, x9, x10, x11, x12] ∧ Bx (N + 10 * i) b' ∧ rs.map (·.op) = ops.take i ∧
      (∀ j r, rs[j]? = some r → NameIs r.nm f j) ∧ (∀ r ∈ rs, 1 ≤ r.ln ∧ r.ln ≤ L) ∧ (∀ r, rs[0]? = some r → r.en = true)
  have hXl : X.length = ops.length := by rw [← hX]; simp
  have hit : iOf enumD (lCons (eVk 5) lNil) [some b, some (.int mo), some (.int L), some (.int c), some (.int M), some (.lst true X), some (.lst true []), some (.int f), none, none, none, none, none] =
      .ok ((List.range X.length).zipWith (fun (i : Nat) x => D.tup [.int (i : Int), x]) X) [some b, some (.int mo), some (.int L), some (.int c), some (.int M), some (.lst false X), some (.lst true []), some (.int f), none, none, none, none, none] := by
    have z : fzL X = X := by rw [← hX]; exact fz_sameL _ fznL_ints
    clear hb
    walk_at "ev"
  obtain ⟨e', h1, b', rs, x8, x9, x10, x11, x12, rfl, h2, h3, h4, h5, h6⟩ := for_inv (g := gT (gsCons (gN 8) (gsCons (gN 9) gsNil))) (m := lb_l_table_1) ((List.range X.length).zipWith (fun (i : Nat) x => D.tup [.int (i : Int), x]) X) Iv (fun i d env hd hi => by
    obtain ⟨b', rs, x8, x9, x10, x11, x12, rfl, h2, h3, h4, h5, h6⟩ := hi
    rw [List.getElem?_zipWith] at hd
    have hi' : i < ops.length := by
      rcases Nat.lt_or_ge i ops.length with h | h
      · exact h
      · rw [List.getElem?_eq_none (by simpa [hXl] using h)] at hd
        simp at hd
    have hop : X[i]? = some (.int (ops[i] : Nat)) := by rw [← hX, List.getElem?_map, List.getElem?_eq_getElem hi']; rfl
    rw [List.getElem?_range (by rw [hXl]; exact hi'), hop] at hd
    cases hd
    have hrl : rs.length = i := by
      have := congrArg List.length h3
      simp at this
      omega
    obtain ⟨r, b2, y10, y11, y12, q1, q2, q3, q4, q5, q6, q7⟩ := row_step (N := N + 10 * i) (f := f) (a := i) (op := ops[i]) (L := L) (M := M) (cD := .int c) (oD := .lst false X) (mo := mo) (found := rs.map Row.d) (x10 := x10) (x11 := x11) (x12 := x12) h2 (by omega) hL0 hL (by omega) hf (by simp; omega)
    refine ⟨_, _, rfl, .inl q1, b2, rs ++ [r], some (.int (i : Nat)), some (.int (ops[i] : Nat)), y10, y11, y12, ?_, q2.mono (by omega), ?_, ?_, ?_, ?_⟩
    · rw [List.map_append]; rfl
    · rw [List.map_append, h3, List.map_cons, List.map_nil, q3]
      exact (List.take_append_getElem hi')
    · intro j s hs
      rw [List.getElem?_append] at hs
      split at hs
      · exact h4 j s hs
      · have : j - rs.length = 0 := by
          rcases Nat.eq_zero_or_pos (j - rs.length) with h | h
          · exact h
          · rw [List.getElem?_eq_none (by simp; omega)] at hs; cases hs
        rw [this] at hs
        cases hs
        rw [show j = i by omega]
        exact q4
    · intro s hs
      rcases List.mem_append.mp hs with hs | hs
      · exact h5 s hs
      · rw [List.mem_singleton.mp hs]; exact ⟨q5, q6⟩
    · intro s hs
      rw [List.getElem?_append] at hs
      split at hs
      · exact h6 s hs
      · rename_i hh
        have : i = 0 := by omega
        rw [hrl, this] at hs
        cases hs
        exact q7 this) (env := [some b, some (.int mo), some (.int L), some (.int c), some (.int M), some (.lst false X), some (.lst true []), some (.int f), none, none, none, none, none]) ⟨b, [], none, none, none, none, none, rfl, hb, by simp, by simp, by simp, by simp⟩
  have hzl : ((List.range X.length).zipWith (fun (i : Nat) x => D.tup [.int (i : Int), x]) X).length = ops.length := by
    rw [List.length_zipWith, List.length_range, hXl]; omega
  rw [hzl] at h2 h3
  refine ⟨b', rs, x8, x9, x10, x11, x12, ?_, h2.mono (by omega), by rw [h3, List.take_length], h4, h5, h6⟩
  unfold lp_l_table_1
  rw [v_for, hit, b_bo, h1]
theorem table_spec {N mo L : Nat} {b : D} (hb : Bx N b) (hN : N ≤ 2 ^ 58) (h1 : 2 ≤ mo) (h2 : mo ≤ 256) (hL0 : 1 ≤ L) (hL : L ≤ 1000) :
    ∃ (c : Nat) (rs : List Row) (b' : D), m_l_table [b, .int mo, .int L] = .ok (tabD c rs) [b'] ∧ TabOk c L rs ∧ c ≤ mo ∧ Bx (N + 3000) b' ∧ (∀ r, rs[0]? = some r → r.en = true) := by
  have hN2 : N + 1 + 1 ≤ 2 ^ 59 := by omega
  have hN4 : N + 1 + 1 + 256 + 1 ≤ 2 ^ 59 := by omega
  obtain ⟨r1, b1, t1, p1, p2, hb1⟩ := take_spec (m := (mo : Int) - 1) hb (by omega) (by omega) (by omega)
  obtain ⟨k, rfl⟩ := Int.eq_ofNat_of_zero_le p1
  obtain ⟨c, hc⟩ : ∃ c, c = 2 + k := ⟨_, rfl⟩
  have ec : (2 : Int) + (k : Int) = (c : Int) := by omega
  have c2 : 2 ≤ c := by omega
  have cm : c ≤ mo := by omega
  clear hc p1 p2
  obtain ⟨u, hu, u1, u2, u3⟩ : ∃ u : Nat, fMin2 [.int 6, .int (c : Int)] = some (.int u) ∧ 1 ≤ u ∧ u ≤ 6 ∧ u ≤ c := by
    by_cases h : (c : Int) < 6
    · exact ⟨c, by simp only [fMin2, h, if_true], by omega, by omega, by omega⟩
    · exact ⟨6, by simp only [fMin2, h, if_false]; rfl, by omega, by omega, by omega⟩
  obtain ⟨r2, b2, t2, p3, p4, hb2⟩ := take_spec (m := (u : Int)) hb1 (by omega) (by omega) (by omega)
  obtain ⟨j, rfl⟩ := Int.eq_ofNat_of_zero_le p3
  obtain ⟨M, hM, hM1, hMc⟩ : ∃ M : Nat, M = (if 12 < c ∧ c % 7 = 3 then 7 + c / 4 else 1 + j) ∧ 1 ≤ M ∧ M ≤ c := by
    refine ⟨_, rfl, ?_, ?_⟩
    · split <;> omega
    · split <;> omega
  obtain ⟨b3, ops, hw, hb3, ho1, ho2⟩ := table_while (mo := mo) (L := L) (c := c) (M := M) hb2 hN2 (by omega) hMc
  obtain ⟨r3, b4, t3, p5, p6, hb4⟩ := take_spec (m := 26) hb3 (by omega) (by omega) (by omega)
  obtain ⟨f, rfl⟩ := Int.eq_ofNat_of_zero_le p5
  obtain ⟨b5, rs, x8, x9, x10, x11, x12, hfo, hb5, q1, q2, q3, q4⟩ := table_for (mo := mo) (c := c) (M := M) (f := f) (ops := ops) hb4 hN4 (by omega) hL0 hL (by omega)
  have hrl : rs.length = M := by rw [← ho2, ← q1]; simp
  refine ⟨c, rs, b5, ?_, ⟨by omega, by omega, fun h => ?_, by omega, fun r hr => ?_, ?_, ?_⟩, by omega, hb5.mono (by omega), q4⟩
  · have rg : rgL 0 (c : Int) = (List.range c).map fun n : Nat => D.int (n : Int) := by
      unfold rgL
      simp
    have rk : rgOk 0 (c : Int) = true := by
      unfold rgOk
      exact decide_eq_true ⟨by omega, by omega, by omega, by omega, by omega⟩
    have z1 := fznL_rows rs
    clear q1 q2 q3 q4 hb hb1 hb2 hb3 hb4 hb5 ho1 ho2 hrl u1 u2 u3 p3 p4 hM1 hMc p5 p6 hN h1 h2 hL0 hL c2 cm
    unfold m_l_table b_l_table
    rw [v_fn]
    walk_at "env"
    refine fin_seq (e := [some b1, some (.int mo), some (.int L), some (.int c), none, none, none, none, none, none, none, none, none]) ?_ ?_
    · walk_at "ev"
    refine fin_seq (e := [some b2, some (.int mo), some (.int L), some (.int c), some (.int (1 + (j : Int))), some (.lst true ((List.range c).map fun n : Nat => .int n)), none, none, none, none, none, none, none]) ?_ ?_
    · walk_at "ev"
    refine fin_seq (e := tEnv b2 mo L c M ((List.range c).map fun n : Nat => .int n)) ?_ ?_
    · have k7 : (0 : Int) < 7 := by decide
      have k4 : (0 : Int) < 4 := by decide
      have l4 : (4 : Int).natAbs.log2 < 9000 := by decide +kernel
      unfold tEnv
      by_cases g1 : (12 : Int) < (c : Int)
      · by_cases g2 : (c : Int) % 7 = 3
        · have e : (7 : Int) + (c : Int) / 4 = (M : Int) := by rw [hM, if_pos (by omega)]; omega
          clear hw hfo hM
          walk_at "ev"
        · have e : (M : Int) = 1 + (j : Int) := by rw [hM, if_neg (by omega)]; omega
          clear hw hfo hM
          walk_at "ev"
      · have e : (M : Int) = 1 + (j : Int) := by rw [hM, if_neg (by omega)]; omega
        clear hw hfo hM
        walk_at "ev"
    refine fin_seq hw ?_
    refine fin_seq (e := [some b4, some (.int mo), some (.int L), some (.int c), some (.int M), some (.lst true (ops.map fun n : Nat => .int n)), some (.lst true []), some (.int f), none, none, none, none, none]) ?_ ?_
    · unfold tEnv
      clear hw hfo hM
      walk_at "ev"
    refine fin_seq hfo ?_
    unfold tabD
    clear hw hfo hM
    walk_at "ev"
  · rw [h] at hrl; simp at hrl; omega
  · obtain ⟨j, hj⟩ := List.getElem?_of_mem hr
    have hjl : j < rs.length := by
      rcases Nat.lt_or_ge j rs.length with g | g
      · exact g
      · rw [List.getElem?_eq_none g] at hj; cases hj
    have hm : r.op ∈ ops := by rw [← q1]; exact List.mem_map.mpr ⟨r, hr, rfl⟩
    have := ho1.subset hm
    refine ⟨by simpa using this, (q2 j r hj).ok ?_, (q3 r hr).1, (q3 r hr).2⟩
    rw [hrl, hM] at hjl
    split at hjl <;> omega
  · rw [← List.pairwise_map (f := fun r : Row => r.op) (R := fun a b => a < b), q1]
    exact List.Pairwise.sublist ho1 List.pairwise_lt_range
  · unfold List.Nodup
    rw [List.pairwise_iff_getElem]
    intro i j hi hj hij e
    simp at hi hj e
    have := (q2 i rs[i] (List.getElem?_eq_getElem hi))
    rw [e] at this
    have := this.inj (q2 j rs[j] (List.getElem?_eq_getElem hj))
    omega
end Mi

set_option maxHeartbeats 4000000
set_option exponentiation.threshold 100000
namespace Mi
open PySem PySem.Spec PyProof.Rows L2 RZ Ov PpSet
local macro_rules | `(tactic| walk_at "ev") => `(tactic| simp -dsimp only [*, b_bo, b_b0, v_bo, v_b0, v_c, v_v, v_mv, v_vk, v_k, v_fk, v_nil, v_cons, v_1, v_2, v_L, v_bB, asB_b, v_bAnd, v_bOr, v_bNot, v_bYes, v_if, v_and, v_or, v_not, v_tup, v_lst, v_fld, asI_i, v_oN, v_oS, optI_i, v_sl, v_rg1, v_rg2, v_lrg, v_trg, chainK_b, v_chain,
  Fl.k_nx, Fl.k_rt, Fl.k_bk, Fl.k_ct, v_seq, v_pass, v_bk, v_ct, v_ret, v_retN, v_expr, v_sif, v_asg, optE_s, v_gN, v_gT, v_gsN, v_gsC, Option.bind_some, v_par, v_par3, v_aug, v_put, v_sfld, v_for, optL_s, v_iSeq, v_iOf, v_iStr, v_lc, v_mList, Rf.back_ok, optP_s, v_callF, v_call, v_aN, v_aE, v_aI, v_fN, v_fE, v_fI, optD_s, Option.map_some,
  v_kN, v_kE, v_kI, v_methE, v_methI, Rf.newB_ok, v_new, fin_rt, fin_nx, getR_s, liftK_s, R.ite_t, R.ite_f, List.getElem?_cons_zero, List.getElem?_cons_succ, List.set_cons_zero, List.set_cons_succ, List.map_cons, List.map_nil, List.cons_append, List.nil_append, List.replicate_succ, List.replicate_zero, k2_s, k3_s, insK_s, strK_s, mlK_s, optF_s, joinO_s, v_gp, v_gq, fldO_s, v_gf, setO_s, v_gs, optR_s, al_n, al_c, pi_t, pi_f, pi_n, wi_n, wi_c,
  add_i, sub_i, mod_i, div_i, pow_60, pow_18, lt_i, le_i, gt_i, ge_i, mul_i, is_n, nis_n, is_i, nis_i, is_t, nis_t, ix_t, ix_l, ix_s, set0, set1, set2, len_t, len_l, len_s, abs_i, int_i, int_b, sl_l, sl_t, fz_l, fz_t, fz_d, fz_i, seq_t, seq_l, zip_l, zip_t, enum_l, tuple_l, tuple_t, list_l, list_t, neg_i, isa_isInt_non, isa_isInt_bl, isa_isInt_int, isa_isInt_str, isa_isInt_tup, isa_isInt_lst, isa_isInt_scr, isa_isInt_dct, isa_isBool_non, isa_isBool_bl, isa_isBool_int, isa_isBool_str, isa_isBool_tup, isa_isBool_lst, isa_isBool_scr, isa_isBool_dct, isa_isStr_non, isa_isStr_bl, isa_isStr_int, isa_isStr_str, isa_isStr_tup, isa_isStr_lst, isa_isStr_scr, isa_isStr_dct, isa_isTuple_non, isa_isTuple_bl, isa_isTuple_int, isa_isTuple_str, isa_isTuple_tup, isa_isTuple_lst, isa_isTuple_scr, isa_isTuple_dct, isa_isList_non, isa_isList_bl, isa_isList_int, isa_isList_str, isa_isList_tup, isa_isList_lst, isa_isList_scr, isa_isList_dct, isa_isDict_non, isa_isDict_bl, isa_isDict_int, isa_isDict_str, isa_isDict_tup, isa_isDict_lst, isa_isDict_scr, isa_isDict_dct, eq_i, ne_i, eq_s, ne_s, fzn_1, fzn_2, fzn_3, fzn_4, fzn_5, fzn_6, fzn_7, fzn_8, fzn_9, fzn_s, fznL_n, fznL_c, fznK_n, fznK_c, fznF_n, fznF_c, sz0, sz1, sz2, sz3, sz4, sz5, sz6, sz7, sz8, pk1, pk2, pk3, pk4, fzL_n, fzL_c, fz_int, fz_bl, fz_str, fz_non, putD_n, putD_c, at0, at1, at2, at3, ix0, ix1, ix2, Bool.not_true, Bool.not_false, Bool.true_and, Bool.and_true, Bool.false_and, Bool.and_false, Bool.or_true, Bool.true_or, Bool.false_or, Bool.or_false, if_true, if_false, Bool.false_eq_true, decide_true, decide_false, and_self, and_true, true_and, not_true_eq_false, not_false_eq_true, ne_eq, false_and, and_false, eq_self])
local macro_rules | `(tactic| walk_at "env") => `(tactic| simp only [List.map_cons, List.map_nil, List.cons_append, List.nil_append, List.replicate_succ, List.replicate_zero])
/-! ### bytes, the small table -/
theorem bytes_spec {N c L n : Nat} {b : D} {rs : List Row} (h : TabOk c L rs) (hb : Bx N b) (hN : N ≤ 2 ^ 59) (hn : n ≤ 1000) :
    ∃ (code : List Nat) (b' : D), m_l_bytes [b, tabD c rs, .int n] = .ok (.tup (code.map fun x : Nat => .int x)) [b'] ∧ code.length = n ∧ (∀ x ∈ code, x < c) ∧ Bx (N + 2 * n) b' := by
  have hl : rs.length ≤ 256 := Nat.le_trans h.len h.hi
  have hs : rs.length ≤ sizeLine := Nat.le_trans hl (by decide)
  have z1 := fznL_rows rs
  have z2 := seq_rows rs
  have z3 : fznL (rs.map fun r => D.int r.op) = true := fznL_ints
  have z4 : fzL (rs.map fun r => D.int r.op) = rs.map fun r => D.int r.op := fz_sameL _ z3
  have hc2 : cp_l_bytes_2 [some b, some (tabD c rs), some (.int n), none, none, none] = .ok (.lst true (rs.map fun r => .int r.op)) [some b, some (tabD c rs), some (.int n), none, none, none] := by
    unfold cp_l_bytes_2
    refine eLc_map rs Row.d _ (e := [some b, some (tabD c rs), some (.int n), none, none, none]) ?_ rfl hs fun r hr => ⟨[some b, some (tabD c rs), some (.int n), none, some r.d, none], rfl, ?_, rfl⟩
    · unfold tabD
      clear hb hN hn h
      walk_at "ev"
    · unfold ce_l_bytes_2 Row.d
      clear hb hN hn h
      walk_at "ev"
  have step : ∀ (M : Nat) (b : D) (o : Bool) (i : Nat), Bx M b → M ≤ 2 ^ 59 + 2 ^ 58 → ∃ (x : Nat) (o' : Bool) (b' : D), ce_l_bytes_1 [some b, some (tabD c rs), some (.int n), some (.lst o (rs.map fun r => .int r.op)), none, some (.int i)] =
      .ok (.int x) [some b', some (tabD c rs), some (.int n), some (.lst o' (rs.map fun r => .int r.op)), none, some (.int i)] ∧ x < c ∧ Bx (M + 2) b' := by
    intro M b o i hb hM
    obtain ⟨r1, b1, t1, p1, p2, hb1⟩ := take_spec (m := 4) hb (by omega) (by omega) (by omega)
    unfold ce_l_bytes_1
    by_cases g : 0 < r1
    · obtain ⟨x, b2, t2, p3, hb2⟩ := of_spec (xs := rs.map fun r => D.int r.op) hb1 (by omega) (.inl rfl) (by simpa using h.ne) (by simp; omega) z3
      obtain ⟨r, hr, rfl⟩ := List.mem_map.mp p3
      refine ⟨r.op, false, b2, ?_, (h.row r hr).op, hb2⟩
      clear hb hb1 hb2 hM p1 p2 p3 hc2 h hN hn hl hs
      cases o with
      | true => walk_at "ev"
      | false => walk_at "ev"
    · have h2 := h.lo
      have h3 := h.hi
      obtain ⟨x, b2, t2, p3, p4, hb2⟩ := take_spec (m := (c : Int)) hb1 (by omega) (by omega) (by omega)
      obtain ⟨x, rfl⟩ := Int.eq_ofNat_of_zero_le p3
      refine ⟨x, o, b2, ?_, by omega, hb2⟩
      clear hb hb1 hb2 hM p1 p2 p3 p4 hc2 h hN hn hl hs h2 h3
      unfold tabD
      walk_at "ev"
  obtain ⟨r, e', k1, k2⟩ := eLc_inv (it := iOf rng1 (lCons (eV 2) lNil)) (g := gN 5) (m := ce_l_bytes_1) (ws := [5]) (env := [some b, some (tabD c rs), some (.int n), some (.lst true (rs.map fun r => .int r.op)), none, none]) (e := [some b, some (tabD c rs), some (.int n), some (.lst true (rs.map fun r => .int r.op)), none, none])
    (ds := (List.range n).map fun k : Nat => .int (k : Int)) (by
      have := rng1_n (j := n) (by omega)
      clear hc2 step hb hN hn h hl hs
      walk_at "ev") (by simp; exact Nat.le_trans hn (by decide))
    (fun i acc env => ∃ (b' : D) (o : Bool) (code : List Nat), env = [some b', some (tabD c rs), some (.int n), some (.lst o (rs.map fun r => .int r.op)), none, none] ∧ acc = code.map (fun x : Nat => .int x) ∧ code.length = i ∧ (∀ x ∈ code, x < c) ∧ Bx (N + 2 * i) b')
    ⟨b, true, [], rfl, rfl, rfl, by simp, hb⟩ (by
      rintro i d acc _ hd ⟨b', o, code, rfl, rfl, q1, q2, q3⟩
      have hi : i < n := by
        rcases Nat.lt_or_ge i n with g | g
        · exact g
        · rw [List.getElem?_eq_none (by simpa using g)] at hd; cases hd
      rw [List.getElem?_map, List.getElem?_range hi] at hd
      cases hd
      obtain ⟨x, o', b2, w1, w2, w3⟩ := step (N + 2 * i) b' o i q3 (by omega)
      refine ⟨_, _, _, rfl, w1, b2, o', code ++ [x], rfl, by simp, by simp [q1], ?_, w3⟩
      intro y hy
      rcases List.mem_append.mp hy with hy | hy
      · exact q2 y hy
      · rw [List.mem_singleton.mp hy]; exact w2)
  obtain ⟨b', o, code, rfl, rfl, q1, q2, q3⟩ := k2
  simp only [List.length_map, List.length_range] at q1 q3
  refine ⟨code, b', ?_, q1, q2, q3⟩
  have k3 : cp_l_bytes_1 [some b, some (tabD c rs), some (.int n), some (.lst true (rs.map fun r => .int r.op)), none, none] = _ := k1
  have z5 : fznL (code.map fun x : Nat => D.int x) = true := fznL_ints
  clear k1 q1 q2 q3 step hb hN hn h hl hs
  unfold m_l_bytes b_l_bytes
  rw [v_fn]
  walk_at "ev"
theorem small_spec {N : Nat} {b : D} (hb : Bx N b) (hN : N ≤ 2 ^ 57) :
    ∃ (c L : Nat) (rs : List Row) (b' : D), m_l_small [b] = .ok (tabD c rs) [b'] ∧ TabOk c L rs ∧ L ≤ 12 ∧ c ≤ 12 ∧ Bx (N + 3010) b' := by
  obtain ⟨r1, b1, t1, p1, p2, hb1⟩ := take_spec (m := 11) hb (by omega) (by omega) (by omega)
  obtain ⟨k, rfl⟩ := Int.eq_ofNat_of_zero_le p1
  obtain ⟨x, b2, t2, p3, hb2⟩ := of_spec (xs := [.int 2, .int 3, .int 3, .int 4, .int 12]) hb1 (by omega) (.inl rfl) (by simp) (by simp) rfl
  obtain ⟨L, rfl, l1, l2⟩ : ∃ L : Nat, x = .int L ∧ 1 ≤ L ∧ L ≤ 12 := by
    simp only [List.mem_cons, List.not_mem_nil, or_false] at p3
    rcases p3 with rfl | rfl | rfl | rfl | rfl
    · exact ⟨2, rfl, by omega, by omega⟩
    · exact ⟨3, rfl, by omega, by omega⟩
    · exact ⟨3, rfl, by omega, by omega⟩
    · exact ⟨4, rfl, by omega, by omega⟩
    · exact ⟨12, rfl, by omega, by omega⟩
  obtain ⟨c, rs, b', h1, h2, h3, h4, _⟩ := table_spec (mo := 2 + k) (L := L) hb2 (by omega) (by omega) (by omega) l1 (by omega)
  refine ⟨c, L, rs, b', ?_, h2, l2, by omega, h4.mono (by omega)⟩
  have e : (2 : Int) + (k : Int) = ((2 + k : Nat) : Int) := by omega
  clear hb hb1 hb2 hN p1 p2 p3 l1 l2 h2 h3 h4
  unfold m_l_small b_l_small
  rw [v_fn]
  walk_at "ev"
end Mi

set_option maxHeartbeats 4000000
set_option exponentiation.threshold 100000
namespace Mi
open PySem PySem.Spec PyProof.Rows L2 RZ Ov PpSet
local macro_rules | `(tactic| walk_at "ev") => `(tactic| simp -dsimp only [*, b_bo, b_b0, v_bo, v_b0, v_c, v_v, v_mv, v_vk, v_k, v_fk, v_nil, v_cons, v_1, v_2, v_L, v_bB, asB_b, v_bAnd, v_bOr, v_bNot, v_bYes, v_if, v_and, v_or, v_not, v_tup, v_lst, v_fld, asI_i, v_oN, v_oS, optI_i, v_sl, v_rg1, v_rg2, v_lrg, v_trg, chainK_b, v_chain,
  Fl.k_nx, Fl.k_rt, Fl.k_bk, Fl.k_ct, v_seq, v_pass, v_bk, v_ct, v_ret, v_retN, v_expr, v_sif, v_asg, optE_s, v_gN, v_gT, v_gsN, v_gsC, Option.bind_some, v_par, v_par3, v_aug, v_put, v_sfld, v_for, optL_s, v_iSeq, v_iOf, v_iStr, v_lc, v_mList, Rf.back_ok, optP_s, v_callF, v_call, v_aN, v_aE, v_aI, v_fN, v_fE, v_fI, optD_s, Option.map_some,
  v_kN, v_kE, v_kI, v_methE, v_methI, Rf.newB_ok, v_new, fin_rt, fin_nx, getR_s, liftK_s, R.ite_t, R.ite_f, List.getElem?_cons_zero, List.getElem?_cons_succ, List.set_cons_zero, List.set_cons_succ, List.map_cons, List.map_nil, List.cons_append, List.nil_append, List.replicate_succ, List.replicate_zero, k2_s, k3_s, insK_s, strK_s, mlK_s, optF_s, joinO_s, v_gp, v_gq, fldO_s, v_gf, setO_s, v_gs, optR_s, al_n, al_c, pi_t, pi_f, pi_n, wi_n, wi_c,
  add_i, sub_i, mod_i, div_i, pow_60, pow_18, lt_i, le_i, gt_i, ge_i, mul_i, is_n, nis_n, is_i, nis_i, is_t, nis_t, ix_t, ix_l, ix_s, set0, set1, set2, len_t, len_l, len_s, abs_i, int_i, int_b, sl_l, sl_t, fz_l, fz_t, fz_d, fz_i, seq_t, seq_l, zip_l, zip_t, enum_l, tuple_l, tuple_t, list_l, list_t, neg_i, isa_isInt_non, isa_isInt_bl, isa_isInt_int, isa_isInt_str, isa_isInt_tup, isa_isInt_lst, isa_isInt_scr, isa_isInt_dct, isa_isBool_non, isa_isBool_bl, isa_isBool_int, isa_isBool_str, isa_isBool_tup, isa_isBool_lst, isa_isBool_scr, isa_isBool_dct, isa_isStr_non, isa_isStr_bl, isa_isStr_int, isa_isStr_str, isa_isStr_tup, isa_isStr_lst, isa_isStr_scr, isa_isStr_dct, isa_isTuple_non, isa_isTuple_bl, isa_isTuple_int, isa_isTuple_str, isa_isTuple_tup, isa_isTuple_lst, isa_isTuple_scr, isa_isTuple_dct, isa_isList_non, isa_isList_bl, isa_isList_int, isa_isList_str, isa_isList_tup, isa_isList_lst, isa_isList_scr, isa_isList_dct, isa_isDict_non, isa_isDict_bl, isa_isDict_int, isa_isDict_str, isa_isDict_tup, isa_isDict_lst, isa_isDict_scr, isa_isDict_dct, eq_i, ne_i, eq_s, ne_s, fzn_1, fzn_2, fzn_3, fzn_4, fzn_5, fzn_6, fzn_7, fzn_8, fzn_9, fzn_s, fznL_n, fznL_c, fznK_n, fznK_c, fznF_n, fznF_c, sz0, sz1, sz2, sz3, sz4, sz5, sz6, sz7, sz8, pk1, pk2, pk3, pk4, fzL_n, fzL_c, fz_int, fz_bl, fz_str, fz_non, putD_n, putD_c, at0, at1, at2, at3, ix0, ix1, ix2, Bool.not_true, Bool.not_false, Bool.true_and, Bool.and_true, Bool.false_and, Bool.and_false, Bool.or_true, Bool.true_or, Bool.false_or, Bool.or_false, if_true, if_false, Bool.false_eq_true, decide_true, decide_false, and_self, and_true, true_and, not_true_eq_false, not_false_eq_true, ne_eq, false_and, and_false, eq_self])
local macro_rules | `(tactic| walk_at "env") => `(tactic| simp only [List.map_cons, List.map_nil, List.cons_append, List.nil_append, List.replicate_succ, List.replicate_zero])
/-! ### maps of codes: what both compute -/
def mapF (rs : List Row) : List Nat → Nat → Option Nat × Nat
  | [], k => (some k, 0)
  | _ :: bs, k + 1 => mapF rs bs k
  | b :: bs, 0 => if lenAt rs b = 0 then (none, 0) else ((mapF rs bs (lenAt rs b - 1)).1, (mapF rs bs (lenAt rs b - 1)).2 + 1)
def oI : Option Nat → D
  | none => .non
  | some n => .int n
def encM (p : Option Nat × Nat) : D := .tup [oI p.1, .int p.2]
theorem fzn_oI (o : Option Nat) : fzn (oI o) = true := by cases o <;> rfl
theorem fzn_encM (p : Option Nat × Nat) : fzn (encM p) = true := by
  unfold encM
  rw [fzn_5, fznL_c, fzn_oI]
  rfl
theorem mapF_ge {rs : List Row} : ∀ {code : List Nat} {q : Nat}, code.length ≤ q → mapF rs code q = (some (q - code.length), 0)
  | [], q, _ => by rw [mapF]; simp
  | b :: bs, 0, h => by simp at h
  | b :: bs, q + 1, h => by
    rw [mapF, mapF_ge (by simpa using h)]
    simp
theorem mapF_at {rs : List Row} : ∀ {code : List Nat} {p b : Nat}, code[p]? = some b → mapF rs code p = if lenAt rs b = 0 then (none, 0) else ((mapF rs code (p + lenAt rs b)).1, (mapF rs code (p + lenAt rs b)).2 + 1)
  | [], p, b, h => by simp at h
  | a :: bs, 0, b, h => by
    simp at h
    subst h
    rw [mapF, Nat.zero_add]
    by_cases g : lenAt rs a = 0
    · rw [if_pos g, if_pos g]
    · rw [if_neg g, if_neg g]
      obtain ⟨k, hk⟩ : ∃ k, lenAt rs a = k + 1 := ⟨lenAt rs a - 1, by omega⟩
      rw [hk, mapF]
      rfl
  | a :: bs, p + 1, b, h => by
    simp at h
    rw [mapF, mapF_at h, show p + 1 + lenAt rs b = p + lenAt rs b + 1 by omega, mapF]
theorem mapF_le {rs : List Row} {L : Nat} (hL : ∀ b, lenAt rs b ≤ L) : ∀ {code : List Nat} {k : Nat}, (∀ o, (mapF rs code k).1 = some o → o ≤ k ∨ o ≤ L) ∧ (mapF rs code k).2 ≤ code.length
  | [], k => by rw [mapF]; exact ⟨fun o h => by cases h; omega, Nat.le_refl _⟩
  | b :: bs, k + 1 => by
    rw [mapF]
    have := mapF_le hL (code := bs) (k := k)
    exact ⟨fun o h => by have := this.1 o h; omega, by have := this.2; simp; omega⟩
  | b :: bs, 0 => by
    rw [mapF]
    split
    · exact ⟨fun o h => (by cases h), by simp⟩
    · have := mapF_le hL (code := bs) (k := lenAt rs b - 1)
      have hb := hL b
      exact ⟨fun o h => by have := this.1 o h; omega, by have := this.2; simp; omega⟩
/-! ### the law's map -/
def runM (rs : List Row) : Option Nat → List Nat → Option Nat × Nat
  | none, _ => (none, 0)
  | some k, bs => mapF rs bs k
theorem eq_non {i : Int} : fEq2 .non (.int i) = some (.bl false) := rfl
theorem fzn_tab {c : Nat} {rs : List Row} : fzn (tabD c rs) = true := by
  unfold tabD
  rw [fzn_5, fznL_c, fznL_c, fzn_5, fznL_rows]
  rfl
theorem map_inner {c L : Nat} {rs : List Row} {cD fD sD : D} (h : TabOk c L rs) : ∀ (bs : List Nat) (l : Option Nat) (d : Nat) (x : Option D), ∃ y, forL (gN 6) lb_l_map_1 (bs.map fun b : Nat => .int b) [some (tabD c rs), some cD, some fD, some sD, some (oI l), some (.int d), x] =
    .ok .nx [some (tabD c rs), some cD, some fD, some sD, some (oI (runM rs l bs).1), some (.int (d + (runM rs l bs).2 : Nat)), y]
  | [], none, d, x => ⟨x, rfl⟩
  | [], some k, d, x => ⟨x, by rw [runM, mapF]; rfl⟩
  | b :: bs, none, d, x => by
    obtain ⟨y, hy⟩ := map_inner (cD := cD) (fD := fD) (sD := sD) h bs none d (some (.int b))
    refine ⟨y, ?_⟩
    rw [List.map_cons, for_cons (e' := [some (tabD c rs), some cD, some fD, some sD, some .non, some (.int d), some (.int b)]) (v_gN (env := [some (tabD c rs), some cD, some fD, some sD, some (oI none), some (.int d), x]))]
    · exact hy
    · have e := @eq_non
      unfold lb_l_map_1 oI
      clear hy h
      walk_at "ev"
  | b :: bs, some (k + 1), d, x => by
    obtain ⟨y, hy⟩ := map_inner (cD := cD) (fD := fD) (sD := sD) h bs (some k) d (some (.int b))
    refine ⟨y, ?_⟩
    rw [List.map_cons, for_cons (e' := [some (tabD c rs), some cD, some fD, some sD, some (.int k), some (.int d), some (.int b)]) (v_gN (env := [some (tabD c rs), some cD, some fD, some sD, some (oI (some (k + 1))), some (.int d), x]))]
    · exact hy
    · have e1 : ¬ ((k + 1 : Nat) : Int) = 0 := by omega
      have e2 : ((k + 1 : Nat) : Int) - 1 = (k : Int) := by omega
      unfold lb_l_map_1 oI
      clear hy h
      walk_at "ev"
  | b :: bs, some 0, d, x => by
    have hl := l_length_at_spec (b := b) h
    have ft := fzn_tab (c := c) (rs := rs)
    rw [List.map_cons, runM]
    by_cases g : lenAt rs b = 0
    · obtain ⟨y, hy⟩ := map_inner (cD := cD) (fD := fD) (sD := sD) h bs none d (some (.int b))
      refine ⟨y, ?_⟩
      rw [for_cons (e' := [some (tabD c rs), some cD, some fD, some sD, some .non, some (.int d), some (.int b)]) (v_gN (env := [some (tabD c rs), some cD, some fD, some sD, some (oI (some 0)), some (.int d), x])), mapF, if_pos g]
      · exact hy
      · rw [g] at hl
        have e1 : ((0 : Nat) : Int) = 0 := rfl
        have e2 : ¬ (0 : Int) < 0 := by decide
        have e3 : (d : Int) + 0 = d := by omega
        unfold lb_l_map_1 oI
        clear hy h g
        walk_at "ev"
    · obtain ⟨y, hy⟩ := map_inner (cD := cD) (fD := fD) (sD := sD) h bs (some (lenAt rs b - 1)) (d + 1) (some (.int b))
      refine ⟨y, ?_⟩
      rw [for_cons (e' := [some (tabD c rs), some cD, some fD, some sD, some (.int (lenAt rs b - 1 : Nat)), some (.int (d + 1 : Nat)), some (.int b)]) (v_gN (env := [some (tabD c rs), some cD, some fD, some sD, some (oI (some 0)), some (.int d), x])), mapF, if_neg g]
      · rw [show d + ((mapF rs bs (lenAt rs b - 1)).2 + 1) = d + 1 + (mapF rs bs (lenAt rs b - 1)).2 by omega]
        exact hy
      · have e1 : ((0 : Nat) : Int) = 0 := rfl
        have e2 : (0 : Int) < (lenAt rs b : Int) := by omega
        have e3 : (d : Int) + 1 = ((d + 1 : Nat) : Int) := by omega
        have e4 : (lenAt rs b : Int) - 1 = ((lenAt rs b - 1 : Nat) : Int) := by omega
        unfold lb_l_map_1 oI
        clear hy h g
        walk_at "ev"
def mapsD (rs : List Row) (code : List Nat) : List D := (List.range (lng rs)).map fun q => encM (mapF rs code q)
theorem fznL_code {code : List Nat} : fznL (code.map fun x : Nat => D.int x) = true := fznL_ints
theorem fzL_code {code : List Nat} : fzL (code.map fun x : Nat => D.int x) = code.map fun x : Nat => D.int x := fz_sameL _ fznL_ints
theorem l_map_spec {c L : Nat} {rs : List Row} {code : List Nat} (h : TabOk c L rs) (hL : L ≤ 12) : m_l_map [tabD c rs, .tup (code.map fun x : Nat => .int x)] = .ok (.tup (mapsD rs code)) [] := by
  have hl := l_longest_spec h
  have ft := fzn_tab (c := c) (rs := rs)
  have hL' := h.lng
  generalize hX : (code.map fun x : Nat => D.int x) = X
  have zX : fznL X = true := by rw [← hX]; exact fznL_code
  have zX2 : fzL X = X := by rw [← hX]; exact fzL_code
  obtain ⟨e', h1, x3, x4, x5, x6, h2⟩ := for_inv (g := gN 3) (m := lb_l_map_2) ((List.range (lng rs)).map fun k : Nat => .int (k : Int)) (fun i env => ∃ x3 x4 x5 x6, env = [some (tabD c rs), some (.tup X), some (.lst true ((List.range i).map fun q => encM (mapF rs code q))), x3, x4, x5, x6]) (by
    rintro i d _ hd ⟨x3, x4, x5, x6, rfl⟩
    have hi : i < lng rs := by
      rcases Nat.lt_or_ge i (lng rs) with g | g
      · exact g
      · rw [List.getElem?_eq_none (by simpa using g)] at hd; cases hd
    rw [List.getElem?_map, List.getElem?_range hi] at hd
    cases hd
    obtain ⟨y, hy⟩ := map_inner (cD := .tup X) (fD := .lst true ((List.range i).map fun q => encM (mapF rs code q))) (sD := .int (i : Nat)) h code (some i) 0 x6
    rw [hX, runM, Nat.zero_add] at hy
    refine ⟨_, [some (tabD c rs), some (.tup X), some (.lst true ((List.range (i + 1)).map fun q => encM (mapF rs code q))), some (.int i), some (oI (mapF rs code i).1), some (.int (mapF rs code i).2), y], rfl, .inl ?_, _, _, _, _, rfl⟩
    have ha : fAppend ((List.range i).map fun q => encM (mapF rs code q)) [encM (mapF rs code i)] = some (.non, (List.range (i + 1)).map fun q => encM (mapF rs code q)) := by
      unfold fAppend
      simp only [List.length_map, List.length_range]
      rw [if_pos (Nat.lt_of_lt_of_le (by omega : i < 1000) (by decide)), List.range_succ, List.map_append]
      rfl
    have zo := fzn_oI (mapF rs code i).1
    have hp : lp_l_map_1 [some (tabD c rs), some (.tup X), some (.lst true ((List.range i).map fun q => encM (mapF rs code q))), some (.int (i : Nat)), some (oI (some i)), some (.int ((0 : Nat) : Int)), x6] = .ok .nx [some (tabD c rs), some (.tup X), some (.lst true ((List.range i).map fun q => encM (mapF rs code q))), some (.int (i : Nat)), some (oI (mapF rs code i).1), some (.int ((mapF rs code i).2 : Nat)), y] := by
      unfold lp_l_map_1
      rw [← hy]
      clear hy
      walk_at "ev"
    clear hy hl hX h hL hL'
    have e0 : ((0 : Nat) : Int) = 0 := rfl
    have e1 : oI (some i) = .int i := rfl
    rw [e0, e1] at hp
    generalize (List.range i).map (fun q => encM (mapF rs code q)) = Fi at *
    generalize (List.range (i + 1)).map (fun q => encM (mapF rs code q)) = Fj at *
    unfold encM at ha
    unfold lb_l_map_2
    walk_at "ev") (env := [some (tabD c rs), some (.tup X), some (.lst true []), none, none, none, none]) ⟨none, none, none, none, rfl⟩
  simp only [List.length_map, List.length_range] at h2
  subst h2
  have h3 : lp_l_map_2 [some (tabD c rs), some (.tup X), some (.lst true []), none, none, none, none] = .ok .nx [some (tabD c rs), some (.tup X), some (.lst true (mapsD rs code)), x3, x4, x5, x6] := by
    unfold lp_l_map_2 mapsD
    rw [← h1]
    have := rng1_n (j := lng rs) (by omega)
    clear h1 h hL hL'
    walk_at "ev"
  have z : fznL (mapsD rs code) = true := fznL_map fun q _ => fzn_encM _
  clear h1 h hL hL' hX
  unfold m_l_map b_l_map
  rw [v_fn]
  walk_at "ev"
/-! ### the program's map -/
theorem set_range {α : Type} {m p : Nat} {f g : Nat → α} (h1 : ∀ q, q ≠ p → f q = g q) : ((List.range m).map f).set p (g p) = (List.range m).map g := by
  apply List.ext_getElem?
  intro q
  rw [List.getElem?_set]
  by_cases hq : p = q
  · subst hq
    rw [if_pos rfl]
    by_cases hm : p < m
    · rw [if_pos (by simpa using hm), List.getElem?_map, List.getElem?_range hm]; rfl
    · rw [if_neg (by simpa using hm), List.getElem?_eq_none (by simpa using hm)]
  · rw [if_neg hq]
    by_cases hm : q < m
    · rw [List.getElem?_map, List.getElem?_map, List.getElem?_range hm]
      simp only [Option.map_some]
      rw [h1 q (fun e => hq e.symm)]
    · rw [List.getElem?_eq_none (by simpa using hm), List.getElem?_eq_none (by simpa using hm)]
theorem cut_take {α : Type} {xs : List α} {k : Nat} (h : k ≤ xs.length) : cutA xs none (some (k : Int)) = xs.take k := by
  unfold cutA
  have h1 : HT.sIx xs.length 0 none = 0 := by simp [HT.sIx]
  have h2 : HT.sIx xs.length xs.length (some (k : Int)) = k := by
    simp [HT.sIx]
    rw [if_neg (by omega)]
    omega
  rw [h1, h2]
  rfl
theorem mul_l {o : Bool} {a : List D} {k : Int} : fMul (.lst o a) (.int k) = if -(2 ^ 63) ≤ k ∧ k < 2 ^ 63 ∧ a.length * k.toNat ≤ sizeLine ∧ fznL a = true then some (.lst true (List.replicate k.toNat a).flatten) else none := nrfl rfl
def foundI (rs : List Row) (code : List Nat) (i : Nat) (q : Nat) : D := if q + i < code.length then encM (none, 0) else encM (mapF rs code q)
theorem fznL_found {rs : List Row} {code : List Nat} {i m : Nat} : fznL ((List.range m).map (foundI rs code i)) = true := fznL_map fun q _ => by
  unfold foundI
  split <;> exact fzn_encM _
theorem code_step {c L : Nat} {o : Bool} {rs : List Row} {code : List Nat} {i : Nat} {x6 x7 x8 : Option D} (h : TabOk c L rs) (hi : i < code.length) :
    ∃ y6 y7 y8, lb_code_map_1 [some (machD false c rs), some (.tup (code.map fun x : Nat => .int x)), some (.int code.length), some (.int (lng rs)), some (.lst true ((List.range (code.length + lng rs)).map (foundI rs code i))), some (.int (code.length - 1 - i : Nat)), x6, x7, x8, none] =
      .ok .nx [some (machD false c rs), some (.tup (code.map fun x : Nat => .int x)), some (.int code.length), some (.int (lng rs)), some (.lst true ((List.range (code.length + lng rs)).map (foundI rs code (i + 1)))), some (.int (code.length - 1 - i : Nat)), y6, y7, y8, none] := by
  obtain ⟨p, hp⟩ : ∃ p, p = code.length - 1 - i := ⟨_, rfl⟩
  rw [← hp]
  have hpl : p < code.length := by omega
  have hb : (code.map fun x : Nat => D.int x)[p]? = some (.int (code[p] : Nat)) := by rw [List.getElem?_map, List.getElem?_eq_getElem hpl]; rfl
  have hc : code[p]? = some code[p] := List.getElem?_eq_getElem hpl
  generalize code[p] = b at hb hc
  have ha := atI_nat hb
  have hm := mapF_at (rs := rs) hc
  have hlen := length_at_spec (c := c) (o := false) (rs := rs) (b := b)
  have hr := recv_mach (o := false) (c := c) (rs := rs) (m := "length_at") (by decide) (by decide) (by decide)
  have hz := fzn_mach (c := c) (rs := rs)
  have hle := lenAt_le h b
  generalize hX : (code.map fun x : Nat => D.int x) = X at *
  by_cases g : lenAt rs b = 0
  · refine ⟨some (.int 0), x7, x8, ?_⟩
    have e : (List.range (code.length + lng rs)).map (foundI rs code i) = (List.range (code.length + lng rs)).map (foundI rs code (i + 1)) := by
      refine List.map_congr_left fun q _ => ?_
      unfold foundI
      by_cases hq : q = p
      · subst hq
        rw [if_pos (by omega), if_neg (by omega), hm, if_pos g]
      · by_cases h1 : q + i < code.length
        · rw [if_pos h1, if_pos (by omega)]
        · rw [if_neg h1, if_neg (by omega)]
    rw [e]
    rw [g] at hlen
    have e0 : ((0 : Nat) : Int) = 0 := rfl
    have e1 : ¬ (0 : Int) < 0 := by decide
    clear hp hpl hb hc hm hle g e hX hi h
    unfold lb_code_map_1
    walk_at "ev"
  · have hq : p + lenAt rs b < code.length + lng rs := by omega
    have hf : ((List.range (code.length + lng rs)).map (foundI rs code i))[p + lenAt rs b]? = some (encM (mapF rs code (p + lenAt rs b))) := by
      rw [List.getElem?_map, List.getElem?_range hq]
      simp only [Option.map_some, foundI]
      rw [if_neg (by omega)]
    have hf2 := atI_nat hf
    rw [if_neg g] at hm
    generalize mapF rs code (p + lenAt rs b) = oe at hf2 hm
    obtain ⟨oo, ee⟩ := oe
    refine ⟨some (.int (lenAt rs b)), some (oI oo), some (.int ee), ?_⟩
    have hs : fSet (.lst true ((List.range (code.length + lng rs)).map (foundI rs code i))) (.int (p : Int)) (.tup [oI oo, .int ((ee : Int) + 1)]) = some (.lst true ((List.range (code.length + lng rs)).map (foundI rs code (i + 1)))) := by
      unfold fSet
      simp only [List.length_map, List.length_range]
      rw [ix_n (by omega)]
      simp only
      have e : D.tup [oI oo, .int ((ee : Int) + 1)] = foundI rs code (i + 1) p := by
        unfold foundI
        rw [if_neg (by omega), hm]
        rfl
      rw [e, set_range]
      intro q hq
      unfold foundI
      by_cases h1 : q + i < code.length
      · rw [if_pos h1, if_pos (by omega)]
      · rw [if_neg h1, if_neg (by omega)]
    have e1 : (0 : Int) < (lenAt rs b : Int) := by omega
    have e2 : (p : Int) + (lenAt rs b : Int) = ((p + lenAt rs b : Nat) : Int) := by omega
    have zo := fzn_oI oo
    unfold encM at hf2
    simp only at hf2
    generalize (List.range (code.length + lng rs)).map (foundI rs code i) = Fi at *
    generalize (List.range (code.length + lng rs)).map (foundI rs code (i + 1)) = Fj at *
    clear hp hpl hb hc hm hle g hX hi h hf hq
    unfold lb_code_map_1
    walk_at "ev"
theorem code_map_spec {c L : Nat} {rs : List Row} {code : List Nat} (h : TabOk c L rs) (hL : L ≤ 12) (hc : code.length ≤ 1000) : m_code_map [machD false c rs, .tup (code.map fun x : Nat => .int x)] = .ok (.tup (mapsD rs code)) [] := by
  have hl := longest_spec (o := false) h
  have hr := recv_mach (o := false) (c := c) (rs := rs) (m := "longest") (by decide) (by decide) (by decide)
  have hz := fzn_mach (c := c) (rs := rs)
  have hL' := h.lng
  obtain ⟨e', h1, x5, x6, x7, x8, h2⟩ := for_inv (g := gN 5) (m := lb_code_map_1) ((List.range code.length).map fun k : Nat => .int (((code.length : Int) - 1) + (k : Int) * -1)) (fun i env => ∃ x5 x6 x7 x8, env = [some (machD false c rs), some (.tup (code.map fun x : Nat => .int x)), some (.int code.length), some (.int (lng rs)), some (.lst true ((List.range (code.length + lng rs)).map (foundI rs code i))), x5, x6, x7, x8, none]) (by
    rintro i d _ hd ⟨x5, x6, x7, x8, rfl⟩
    have hi : i < code.length := by
      rcases Nat.lt_or_ge i code.length with g | g
      · exact g
      · rw [List.getElem?_eq_none (by simpa using g)] at hd; cases hd
    rw [List.getElem?_map, List.getElem?_range hi] at hd
    cases hd
    obtain ⟨y6, y7, y8, hs⟩ := code_step (o := false) (x6 := x6) (x7 := x7) (x8 := x8) h hi
    have e : ((code.length : Int) - 1) + (i : Int) * -1 = ((code.length - 1 - i : Nat) : Int) := by omega
    simp only [e]
    exact ⟨_, _, rfl, .inl hs, _, _, _, _, rfl⟩) (env := [some (machD false c rs), some (.tup (code.map fun x : Nat => .int x)), some (.int code.length), some (.int (lng rs)), some (.lst true ((List.range (code.length + lng rs)).map (foundI rs code 0))), none, none, none, none, none]) ⟨none, none, none, none, rfl⟩
  simp only [List.length_map, List.length_range] at h2
  subst h2
  have hlp : lp_code_map_1 [some (machD false c rs), some (.tup (code.map fun x : Nat => .int x)), some (.int code.length), some (.int (lng rs)), some (.lst true ((List.range (code.length + lng rs)).map (foundI rs code 0))), none, none, none, none, none] = .ok .nx [some (machD false c rs), some (.tup (code.map fun x : Nat => .int x)), some (.int code.length), some (.int (lng rs)), some (.lst true ((List.range (code.length + lng rs)).map (foundI rs code code.length))), x5, x6, x7, x8, none] := by
    unfold lp_code_map_1
    rw [← h1]
    have e : rng3 [.int ((code.length : Int) - 1), .int (-1), .int (-1)] = some ((List.range code.length).map fun k : Nat => D.int (((code.length : Int) - 1) + (k : Int) * -1)) := by
      unfold rng3
      simp only
      rw [if_pos ⟨trivial, by omega, by omega, by omega, by omega⟩, show ((code.length : Int) - 1 - -1).toNat = code.length by omega]
    clear h1 h hL hL' hc hl hr hz
    walk_at "ev"
  clear h1
  have hcm : ∀ x : Option D, cp_code_map_1 [some (machD false c rs), some (.tup (code.map fun x : Nat => .int x)), some (.int code.length), some (.int (lng rs)), x, none, none, none, none, none] = .ok (.lst true ((List.range (lng rs)).map fun q => encM (some q, 0))) [some (machD false c rs), some (.tup (code.map fun x : Nat => .int x)), some (.int code.length), some (.int (lng rs)), x, none, none, none, none, none] := by
    intro x
    unfold cp_code_map_1
    refine eLc_map (List.range (lng rs)) (fun k : Nat => .int (k : Int)) _ (e := [some (machD false c rs), some (.tup (code.map fun x : Nat => .int x)), some (.int code.length), some (.int (lng rs)), x, none, none, none, none, none]) ?_ rfl (by rw [List.length_range]; exact Nat.le_trans (by omega : lng rs ≤ 12) (by decide)) fun q hq => ⟨[some (machD false c rs), some (.tup (code.map fun x : Nat => .int x)), some (.int code.length), some (.int (lng rs)), x, none, none, none, none, some (.int q)], rfl, ?_, rfl⟩
    · have := rng1_n (j := lng rs) (by omega)
      clear hlp h hL hL' hc hl hr hz
      walk_at "ev"
    · unfold ce_code_map_1 encM oI
      clear hlp h hL hL' hc hl hr hz
      walk_at "ev"
      rfl
  have hmul : fMul (.lst true [.tup [.non, .int 0]]) (.int (code.length : Int)) = some (.lst true (List.replicate code.length (encM (none, 0)))) := by
    have hk : ([.tup [.non, .int 0]] : List D).length * ((code.length : Int)).toNat ≤ sizeLine := by
      rw [List.length_singleton, show ((code.length : Int)).toNat = code.length by omega]
      exact Nat.le_trans (by omega : 1 * code.length ≤ 1000) (by decide)
    rw [mul_l, if_pos ⟨by omega, by omega, hk, rfl⟩]
    · refine congrArg (fun l => some (D.lst true l)) ?_
      rw [show ((code.length : Int)).toNat = code.length by omega]
      generalize code.length = n
      induction n with
      | zero => rfl
      | succ n ih => rw [List.replicate_succ, List.flatten_cons, ih, List.replicate_succ]; rfl
  have hadd : fAdd (.lst true (List.replicate code.length (encM (none, 0)))) (.lst true ((List.range (lng rs)).map fun q => encM (some q, 0))) = some (.lst true ((List.range (code.length + lng rs)).map (foundI rs code 0))) := by
    unfold fAdd
    simp only
    have hk : (List.replicate code.length (encM (none, 0))).length + ((List.range (lng rs)).map fun q => encM (some q, 0)).length ≤ sizeLine := by
      simp only [List.length_replicate, List.length_map, List.length_range]
      exact Nat.le_trans (by omega : code.length + lng rs ≤ 1012) (by decide)
    have hk2 : fznL (List.replicate code.length (encM (none, 0))) = true := fznL_of fun d hd => by
      rw [List.eq_of_mem_replicate hd]; exact fzn_encM _
    rw [if_pos ⟨hk, hk2, fznL_map fun q _ => fzn_encM _⟩]
    · refine congrArg (fun l => some (D.lst true l)) ?_
      apply List.ext_getElem?
      intro q
      rw [List.getElem?_append]
      simp only [List.length_replicate]
      by_cases hq : q < code.length
      · rw [if_pos hq, List.getElem?_replicate, if_pos hq, List.getElem?_map, List.getElem?_range (by omega)]
        simp only [Option.map_some, foundI, Nat.add_zero]
        rw [if_pos hq]
      · rw [if_neg hq]
        by_cases hq2 : q < code.length + lng rs
        · rw [List.getElem?_map, List.getElem?_range (by omega), List.getElem?_map, List.getElem?_range hq2]
          simp only [Option.map_some, foundI, Nat.add_zero]
          rw [if_neg hq, mapF_ge (by omega)]
        · rw [List.getElem?_eq_none (by simp; omega), List.getElem?_eq_none (by simp; omega)]
  have hcut : cutA ((List.range (code.length + lng rs)).map (foundI rs code code.length)) none (some (lng rs : Int)) = mapsD rs code := by
    rw [cut_take (by simp), mapsD]
    apply List.ext_getElem?
    intro q
    rw [List.getElem?_take]
    by_cases hq : q < lng rs
    · rw [if_pos hq, List.getElem?_map, List.getElem?_range (by omega), List.getElem?_map, List.getElem?_range hq]
      simp only [Option.map_some, foundI]
      rw [if_neg (by omega)]
    · rw [if_neg hq, List.getElem?_eq_none (by simp; omega)]
  have hz2 : fznL ((List.range (code.length + lng rs)).map (foundI rs code code.length)) = true := fznL_found
  have z : fznL (mapsD rs code) = true := fznL_map fun q _ => fzn_encM _
  have el : (code.map fun x : Nat => D.int x).length = code.length := List.length_map _
  clear hL hL' hc h
  generalize (code.map fun x : Nat => D.int x) = X at *
  generalize (List.range (code.length + lng rs)).map (foundI rs code code.length) = Fn at *
  generalize (List.range (code.length + lng rs)).map (foundI rs code 0) = F0 at *
  generalize (List.range (lng rs)).map (fun q => encM (some q, 0)) = F1 at *
  generalize List.replicate code.length (encM (none, 0)) = F2 at *
  unfold m_code_map b_code_map
  rw [v_fn]
  walk_at "ev"
/-! ### repr -/
theorem repr_ok {d : D} {p : PyData} {n : Nat} (h : toPy d = some p) (h1 : plainD n p = true) (hn : n ≤ 60) (hs : p.showable = true) (hw : wt p ≤ 8000) : fRepr [d] = some (.str p.shown) := by
  obtain ⟨h2, h3⟩ := shows h1 hn hs hw
  unfold fRepr
  simp only [h, hs, decide_eq_true h2, decide_eq_true h3, Bool.and_self, if_true]
def encP (p : Option Nat × Nat) : PyData := .tuple [oD p.1, .int p.2]
theorem enc_py (p : Option Nat × Nat) : toPy (encM p) = some (encP p) := by
  obtain ⟨o, e⟩ := p
  cases o <;> simp [encM, encP, oI, oD, toPy, toPyL]
theorem repr_maps {rs : List Row} {L : Nat} {f : Nat → Option Nat × Nat} (hL : L ≤ 1000) (hf : ∀ q < L, (∀ o, (f q).1 = some o → o < 2 ^ 100) ∧ (f q).2 < 2 ^ 100) : ∃ x, fRepr [.tup ((List.range L).map fun q => encM (f q))] = some (.str x) := by
  refine ⟨_, repr_ok (p := .tuple ((List.range L).map fun q => encP (f q))) (n := 2) ?_ ?_ (by decide) ?_ ?_⟩
  · rw [toPy, toPyL_map fun q _ => enc_py (f q)]
    rfl
  · show plainA 1 _ = true
    refine plainA_map fun q _ => ?_
    show plainA 0 [oD (f q).1, .int (f q).2] = true
    simp [plainA, plain_int, plain_oD]
  · show PyData.showableAll _ = true
    refine showA_map fun q hq => ?_
    obtain ⟨h1, h2⟩ := hf q (by simpa using hq)
    show PyData.showableAll [oD (f q).1, .int (f q).2] = true
    have h3 : (oD (f q).1).showable = true := show_oD fun n hn => Nat.lt_trans (h1 n hn) (by decide)
    have h4 : (PyData.int ((f q).2 : Nat)).showable = true := show_int (Nat.lt_trans (by simpa using h2) (by decide : 2 ^ 100 < 2 ^ 1000))
    simp [PyData.showableAll, h3, h4]
  · have : wtA ((List.range L).map fun q => encP (f q)) ≤ 3 * (List.range L).length := wtA_map fun q _ => by
      have := wt_oD (o := (f q).1)
      simp only [encP, wt, wtA]
      omega
    rw [List.length_range] at this
    simp only [wt]
    omega
theorem ident_spec {c L : Nat} {rs : List Row} (h : TabOk c L rs) (hL : L ≤ 12) : m_identity_map [machD false c rs] = .ok (.tup ((List.range (lng rs)).map fun q => encM (some q, 0))) [] := by
  have hl := longest_spec (o := false) h
  have hr := recv_mach (o := false) (c := c) (rs := rs) (m := "longest") (by decide) (by decide) (by decide)
  have hz := fzn_mach (c := c) (rs := rs)
  have hL' := h.lng
  have hc : cp_identity_map_1 [some (machD false c rs), none] = .ok (.lst true ((List.range (lng rs)).map fun q => encM (some q, 0))) [some (machD false c rs), none] := by
    unfold cp_identity_map_1
    refine eLc_map (List.range (lng rs)) (fun k : Nat => .int (k : Int)) _ (e := [some (machD false c rs), none]) ?_ rfl (by rw [List.length_range]; exact Nat.le_trans (by omega : lng rs ≤ 12) (by decide)) fun q hq => ⟨[some (machD false c rs), some (.int q)], rfl, ?_, rfl⟩
    · have := rng1_n (j := lng rs) (by omega)
      clear h hL hL'
      walk_at "ev"
    · unfold ce_identity_map_1 encM oI
      clear h hL hL' hl hr hz
      walk_at "ev"
      rfl
  have z : fznL ((List.range (lng rs)).map fun q => encM (some q, 0)) = true := fznL_map fun q _ => fzn_encM _
  clear h hL hL' hl hr
  unfold m_identity_map b_identity_map
  rw [v_fn]
  walk_at "ev"
theorem right_spec {N : Nat} {b : D} (hb : Bx N b) (hN : N ≤ 2 ^ 50) : ∃ b', m_l_right [b] = .ok (.bl true) [b'] := by
  obtain ⟨c, L, rs, b1, t1, ht, hL, hc, hb1⟩ := small_spec hb (by omega)
  have hm := machine_spec ht hL
  have hl := l_longest_spec ht
  have hlng := ht.lng
  have ft := fzn_tab (c := c) (rs := rs)
  have hz := fzn_mach (c := c) (rs := rs)
  have hz' := fzn_mach' (c := c) (rs := rs)
  have hzz := fz_mach (c := c) (rs := rs)
  obtain ⟨n1, b2, t2, p1, p2, hb2⟩ := take_spec (m := (lng rs : Int)) hb1 (by omega) (by omega) (by omega)
  obtain ⟨n1, rfl⟩ := Int.eq_ofNat_of_zero_le p1
  obtain ⟨n2, b3, t3, p3, p4, hb3⟩ := take_spec (m := 41) hb2 (by omega) (by omega) (by omega)
  obtain ⟨n2, rfl⟩ := Int.eq_ofNat_of_zero_le p3
  obtain ⟨e', h1, b4, o, x4, x5, h2, hb4⟩ := for_inv (g := gN 4) (m := lb_l_right_1) (([n1, n2, 1, 0] : List Nat).map fun k : Nat => .int (k : Int)) (fun i env => ∃ b' o x4 x5, env = [some b', some (tabD c rs), some (machD o c rs), some (.int (lng rs)), x4, x5, none] ∧ Bx (N + 3012 + 100 * i) b') (by
    rintro i d _ hd ⟨b', o, x4, x5, rfl, q1⟩
    rw [List.getElem?_map, Option.map_eq_some_iff] at hd
    obtain ⟨n, hn, rfl⟩ := hd
    have hi : i < 4 := by
      rcases Nat.lt_or_ge i 4 with g | g
      · exact g
      · rw [List.getElem?_eq_none (by simpa using g)] at hn; cases hn
    have hn41 : n ≤ 41 := by
      have := List.mem_of_getElem? hn
      simp only [List.mem_cons, List.not_mem_nil, or_false] at this
      rcases this with rfl | rfl | rfl | rfl <;> omega
    obtain ⟨code, b2', w1, w2, w3, w4⟩ := bytes_spec (n := n) ht q1 (by omega) (by omega)
    refine ⟨_, [some b2', some (tabD c rs), some (machD false c rs), some (.int (lng rs)), some (.int n), some (.tup (code.map fun x : Nat => .int x)), none], rfl, .inl ?_, b2', false, _, _, rfl, w4.mono (by omega)⟩
    have k1 := code_map_spec (code := code) ht hL (by omega)
    have k2 := l_map_spec (code := code) ht hL
    obtain ⟨x, k3⟩ := repr_maps (rs := rs) (L := lng rs) (f := mapF rs code) (by omega) (fun q hq => by
      have := mapF_le (fun b => lenAt_le ht b) (code := code) (k := q)
      refine ⟨fun o ho => ?_, ?_⟩
      · have := this.1 o ho
        omega
      · have := this.2
        omega)
    have k4 := fznL_code (code := code)
    have k5 : fRepr [.tup (mapsD rs code)] = some (.str x) := k3
    clear k3 w2 w3 w4 q1 hb hb1 hb2 hb3 hN t1 t2 t3 p1 p2 p3 p4 hm hl hlng hn hi hn41 hc ht hL
    unfold lb_l_right_1
    cases o with
    | true => walk_at "ev"
    | false => walk_at "ev") (env := [some b3, some (tabD c rs), some (machD true c rs), some (.int (lng rs)), none, none, none]) ⟨b3, true, none, none, rfl, hb3⟩
  subst h2
  have hlp : lp_l_right_1 [some b1, some (tabD c rs), some (machD true c rs), some (.int (lng rs)), none, none, none] = .ok .nx [some b4, some (tabD c rs), some (machD o c rs), some (.int (lng rs)), x4, x5, none] := by
    unfold lp_l_right_1
    rw [← h1]
    clear h1 hb hb1 hb2 hb3 hb4 hN t1 p1 p2 p3 p4 hm hl hlng hc ht hL
    walk_at "ev"
    rfl
  have hid := ident_spec ht hL
  have hcp : ∀ y : Option D, cp_l_right_1 [some b4, some (tabD c rs), some (machD false c rs), some (.int (lng rs)), x4, x5, none] = .ok (.lst true ((List.range (lng rs)).map fun q => encM (some q, 0))) [some b4, some (tabD c rs), some (machD false c rs), some (.int (lng rs)), x4, x5, none] := by
    intro y
    unfold cp_l_right_1
    refine eLc_map (List.range (lng rs)) (fun k : Nat => .int (k : Int)) _ (e := [some b4, some (tabD c rs), some (machD false c rs), some (.int (lng rs)), x4, x5, none]) ?_ rfl (by rw [List.length_range]; exact Nat.le_trans (by omega : lng rs ≤ 12) (by decide)) fun q hq => ⟨[some b4, some (tabD c rs), some (machD false c rs), some (.int (lng rs)), x4, x5, some (.int q)], rfl, ?_, rfl⟩
    · have := rng1_n (j := lng rs) (by omega)
      clear h1 hlp hb hb1 hb2 hb3 hb4 hN t1 t2 t3 p1 p2 p3 p4 hm hl hlng hc ht hL
      walk_at "ev"
    · unfold ce_l_right_1 encM oI
      clear h1 hlp hb hb1 hb2 hb3 hb4 hN t1 t2 t3 p1 p2 p3 p4 hm hl hlng hc ht hL
      walk_at "ev"
      rfl
  have hcp := hcp none
  have z : fznL ((List.range (lng rs)).map fun q => encM (some q, 0)) = true := fznL_map fun q _ => fzn_encM _
  obtain ⟨x, k3⟩ := repr_maps (rs := rs) (L := lng rs) (f := fun q => (some q, 0)) (by omega) (fun q hq => ⟨fun o ho => by
    have : q = o := Option.some.inj ho
    omega, Nat.two_pow_pos 100⟩)
  refine ⟨b4, ?_⟩
  clear h1 hb hb1 hb2 hb3 hb4 hN t2 t3 p1 p2 p3 p4 hlng hc ht hL
  unfold m_l_right b_l_right
  rw [v_fn]
  walk_at "env"
  refine fin_seq (e := [some b1, some (tabD c rs), none, none, none, none, none]) (by walk_at "ev") ?_
  refine fin_seq (e := [some b1, some (tabD c rs), some (machD true c rs), some (.int (lng rs)), none, none, none]) (by walk_at "ev") ?_
  refine fin_seq hlp ?_
  clear hlp t1 hm hl
  generalize (List.range (lng rs)).map (fun q => encM (some q, 0)) = F at *
  cases o with
  | true => walk_at "ev"
  | false => walk_at "ev"
theorem law_k24 (ns : List Int) (hn : ns.length ≤ 63) : m_law_k24 [.scr (ns.map .int)] = .ok (.bl true) [] := by
  obtain ⟨u, hu, u1⟩ : ∃ u : Nat, fMin2 [.int 3, .int ((ns.map D.int).length : Nat)] = some (.int u) ∧ u ≤ 3 := by
    by_cases h : (((ns.map D.int).length : Nat) : Int) < 3
    · exact ⟨(ns.map D.int).length, by simp only [fMin2, h, if_true], by omega⟩
    · exact ⟨3, by simp only [fMin2, h, if_false]; rfl, by omega⟩
  obtain ⟨v, hv, v1, v2⟩ : ∃ v : Nat, fMax2 [.int 1, .int (u : Int)] = some (.int v) ∧ 1 ≤ v ∧ v ≤ 3 := by
    by_cases h : (u : Int) > 1
    · exact ⟨u, by simp only [fMax2, h, if_true], by omega, by omega⟩
    · exact ⟨1, by simp only [fMax2, h, if_false]; rfl, by omega, by omega⟩
  have z : fznL (ns.map D.int) = true := fznL_map fun _ _ => rfl
  have hc : cp_law_k24_1 [some (.scr (ns.map .int)), none] = .ok (.lst true ((List.range v).map fun _ => .bl true)) [some (.scr (ns.map .int)), none] := by
    unfold cp_law_k24_1
    refine eLc_map (List.range v) (fun k : Nat => .int (k : Int)) _ (e := [some (.scr (ns.map .int)), none]) ?_ rfl (by rw [List.length_range]; exact Nat.le_trans (by omega : v ≤ 12) (by decide)) fun q hq => ⟨[some (.scr (ns.map .int)), some (.int q)], rfl, ?_, rfl⟩
    · have := rng1_n (j := v) (by omega)
      clear hn u1 v1 v2
      walk_at "ev"
    · have hq3 : q < v := by simpa using hq
      obtain ⟨b, h1, h2⟩ := box_spec (ns := ns) (k := q) (by omega)
      obtain ⟨b', h3⟩ := right_spec h2 (by decide)
      have h4 : fDrop [true] [false] m_l_right [b] = .ok (.bl true) [] := by
        unfold fDrop
        rw [h3]
        rfl
      unfold ce_law_k24_1
      clear hu hv hn u1 v1 v2 h2 h3 hq hq3
      walk_at "ev"
  have ha := all_t (o := true) (l := List.range v)
  clear hu hv hn u1 v1 v2
  unfold m_law_k24 b_law_k24
  rw [v_fn]
  walk_at "ev"
end Mi

set_option maxHeartbeats 4000000
set_option exponentiation.threshold 100000
namespace Mi
open PySem PySem.Spec PyProof.Rows L2 RZ Ov PpSet
local macro_rules | `(tactic| walk_at "ev") => `(tactic| simp -dsimp only [*, b_bo, b_b0, v_bo, v_b0, v_c, v_v, v_mv, v_vk, v_k, v_fk, v_nil, v_cons, v_1, v_2, v_L, v_bB, asB_b, v_bAnd, v_bOr, v_bNot, v_bYes, v_if, v_and, v_or, v_not, v_tup, v_lst, v_fld, asI_i, v_oN, v_oS, optI_i, v_sl, v_rg1, v_rg2, v_lrg, v_trg, chainK_b, v_chain,
  Fl.k_nx, Fl.k_rt, Fl.k_bk, Fl.k_ct, v_seq, v_pass, v_bk, v_ct, v_ret, v_retN, v_expr, v_sif, v_asg, optE_s, v_gN, v_gT, v_gsN, v_gsC, Option.bind_some, v_par, v_par3, v_aug, v_put, v_sfld, v_for, optL_s, v_iSeq, v_iOf, v_iStr, v_lc, v_mList, Rf.back_ok, optP_s, v_callF, v_call, v_aN, v_aE, v_aI, v_fN, v_fE, v_fI, optD_s, Option.map_some,
  v_kN, v_kE, v_kI, v_methE, v_methI, Rf.newB_ok, v_new, fin_rt, fin_nx, getR_s, liftK_s, R.ite_t, R.ite_f, List.getElem?_cons_zero, List.getElem?_cons_succ, List.set_cons_zero, List.set_cons_succ, List.map_cons, List.map_nil, List.cons_append, List.nil_append, List.replicate_succ, List.replicate_zero, k2_s, k3_s, insK_s, strK_s, mlK_s, optF_s, joinO_s, v_gp, v_gq, fldO_s, v_gf, setO_s, v_gs, optR_s, al_n, al_c, pi_t, pi_f, pi_n, wi_n, wi_c,
  add_i, sub_i, mod_i, div_i, pow_60, pow_18, lt_i, le_i, gt_i, ge_i, mul_i, is_n, nis_n, is_i, nis_i, is_t, nis_t, ix_t, ix_l, ix_s, set0, set1, set2, len_t, len_l, len_s, abs_i, int_i, int_b, sl_l, sl_t, fz_l, fz_t, fz_d, fz_i, seq_t, seq_l, zip_l, zip_t, enum_l, tuple_l, tuple_t, list_l, list_t, neg_i, isa_isInt_non, isa_isInt_bl, isa_isInt_int, isa_isInt_str, isa_isInt_tup, isa_isInt_lst, isa_isInt_scr, isa_isInt_dct, isa_isBool_non, isa_isBool_bl, isa_isBool_int, isa_isBool_str, isa_isBool_tup, isa_isBool_lst, isa_isBool_scr, isa_isBool_dct, isa_isStr_non, isa_isStr_bl, isa_isStr_int, isa_isStr_str, isa_isStr_tup, isa_isStr_lst, isa_isStr_scr, isa_isStr_dct, isa_isTuple_non, isa_isTuple_bl, isa_isTuple_int, isa_isTuple_str, isa_isTuple_tup, isa_isTuple_lst, isa_isTuple_scr, isa_isTuple_dct, isa_isList_non, isa_isList_bl, isa_isList_int, isa_isList_str, isa_isList_tup, isa_isList_lst, isa_isList_scr, isa_isList_dct, isa_isDict_non, isa_isDict_bl, isa_isDict_int, isa_isDict_str, isa_isDict_tup, isa_isDict_lst, isa_isDict_scr, isa_isDict_dct, eq_i, ne_i, eq_s, ne_s, fzn_1, fzn_2, fzn_3, fzn_4, fzn_5, fzn_6, fzn_7, fzn_8, fzn_9, fzn_s, fznL_n, fznL_c, fznK_n, fznK_c, fznF_n, fznF_c, sz0, sz1, sz2, sz3, sz4, sz5, sz6, sz7, sz8, pk1, pk2, pk3, pk4, fzL_n, fzL_c, fz_int, fz_bl, fz_str, fz_non, putD_n, putD_c, at0, at1, at2, at3, ix0, ix1, ix2, Bool.not_true, Bool.not_false, Bool.true_and, Bool.and_true, Bool.false_and, Bool.and_false, Bool.or_true, Bool.true_or, Bool.false_or, Bool.or_false, if_true, if_false, Bool.false_eq_true, decide_true, decide_false, and_self, and_true, true_and, not_true_eq_false, not_false_eq_true, ne_eq, false_and, and_false, eq_self])
local macro_rules | `(tactic| walk_at "env") => `(tactic| simp only [List.map_cons, List.map_nil, List.cons_append, List.nil_append, List.replicate_succ, List.replicate_zero])
/-! ### further steps -/
def parOk (ds : List D) (is : List Nat) : Bool := decide (ds.length = is.length ∧ ds.length ≤ sizeLine)
theorem v_parN {is : List Nat} {ms : ML} {env : Env} : sParN is ms env = (ms env).bindL (fun ds e => R.ite (parOk ds is) (fun _ => .ok .nx (setsE e is ds)) (fun _ => .no) () ()) () := by
  simp only [R.bindL]
  unfold sParN parOk
  congr 1; funext ds e
  by_cases h : ds.length = is.length ∧ ds.length ≤ sizeLine
  · rw [if_pos h, decide_eq_true h]; rfl
  · rw [if_neg h, decide_eq_false h]; rfl
theorem po2 {a b : D} {i j : Nat} : parOk [a, b] [i, j] = true := decide_eq_true ⟨rfl, sz2⟩
theorem po3 {a b c : D} {i j k : Nat} : parOk [a, b, c] [i, j, k] = true := decide_eq_true ⟨rfl, sz3⟩
theorem po4 {a b c d : D} {i j k l : Nat} : parOk [a, b, c, d] [i, j, k, l] = true := decide_eq_true ⟨rfl, sz4⟩
theorem se_n {env : Env} : setsE env [] [] = env := nrfl rfl
theorem se_c {env : Env} {i : Nat} {is : List Nat} {d : D} {ds : List D} : setsE env (i :: is) (d :: ds) = setsE (env.set i (some d)) is ds := nrfl rfl
theorem v_gUL {gs : MGs} {o : Bool} {ds : List D} {env : Env} : gUL gs (.lst o ds) env = if fznL ds then gs ds env else none := nrfl rfl
theorem v_dnew {env : Env} : eDNew env = .ok (.dct true []) env := nrfl rfl
theorem fi2_i {g : Int → Int → Option D} {a b : Int} : fI2 g (.int a) (.int b) = g a b := nrfl rfl
theorem gdiv_i {a b : Int} : gDiv a b = if 0 < b ∧ b.natAbs.log2 < 9000 then some (.int (a / b)) else none := nrfl rfl
end Mi

set_option maxHeartbeats 4000000
namespace Mi
open PySem PySem.Spec PyProof.Rows L2 RZ Ov PpSet
noncomputable def lb_compose_maps_1 : MS :=
  (sSeq (sAsg (gT (gsCons (gN 5) (gsCons (gN 6) gsNil))) (eIf (bB (e2 fIs (eV 3) (eC .non))) (eTup (lCons (eC .non) (lCons (eC (.int 0)) lNil))) (eK (e2 fIx (eV 1) (eV 3)))))
  (sExpr (mList (2, none) (lCons (eTup (lCons (eVk 5) (lCons (e2 fAdd (eV 4) (eV 6)) lNil))) lNil) fAppend)))
noncomputable def lp_compose_maps_1 : MS :=
  (sFor (iSeq (eVk 0)) (gT (gsCons (gN 3) (gsCons (gN 4) gsNil))) lb_compose_maps_1)
noncomputable def b_compose_maps : MS :=
  (sSeq (sAsg (gN 2) (eLst lNil))
  (sSeq lp_compose_maps_1
  (sRet (eL fTuple (lCons (eV 2) lNil)))))
noncomputable def m_compose_maps : Fun := fnOf 5 [false, false] b_compose_maps
noncomputable def lb_l_powered_1 : MS :=
  (sSeq (sIf (bB (e2 fIn (eV 4) (eV 7))) (sSeq (sPar 8 9 (lCons (e2 fSub (eV 6) (e2 fIx (e2 fIx (eV 7) (eV 4)) (eC (.int 0)))) (lCons (e2 fSub (eV 5) (e2 fIx (e2 fIx (eV 7) (eV 4)) (eC (.int 1)))) lNil)))
  (sSeq (sAsg (gN 10) (e2 fDiv (e2 fSub (eV 1) (eV 6)) (eV 8)))
  (sSeq (sPar 6 5 (lCons (e2 fAdd (eV 6) (e2 fMul (eV 10) (eV 8))) (lCons (e2 fAdd (eV 5) (e2 fMul (eV 10) (eV 9))) lNil)))
  (sAsg (gN 7) eDNew)))) sPass)
  (sIf (bB (e2 fLt (eV 6) (eV 1))) (sSeq (sPut (7, none) (eFk (eTup (lCons (eVk 6) (lCons (eVk 5) lNil)))) (eV 4))
  (sSeq (sPar 5 6 (lCons (e2 fAdd (eV 5) (e2 fIx (e2 fIx (eV 0) (eV 4)) (eC (.int 1)))) (lCons (e2 fAdd (eV 6) (eC (.int 1))) lNil)))
  (sAsg (gN 4) (eK (e2 fIx (e2 fIx (eV 0) (eV 4)) (eC (.int 0))))))) sPass))
noncomputable def lp_l_powered_1 : MS :=
  (sWhile (bAnd (bB (e2 fLt (eV 6) (eV 1))) (bB (e2 fNis (eV 4) (eC .non)))) lb_l_powered_1)
noncomputable def lb_l_powered_2 : MS :=
  (sSeq (sParN [4, 5, 6, 7] (lCons (eVk 3) (lCons (eC (.int 0)) (lCons (eC (.int 0)) (lCons eDNew lNil)))))
  (sSeq lp_l_powered_1
  (sExpr (mList (2, none) (lCons (eTup (lCons (eVk 4) (lCons (eVk 5) lNil))) lNil) fAppend))))
noncomputable def lp_l_powered_2 : MS :=
  (sFor (iOf rng1 (lCons (eL fLen (lCons (eV 0) lNil)) lNil)) (gN 3) lb_l_powered_2)
noncomputable def b_l_powered : MS :=
  (sSeq (sAsg (gN 2) (eLst lNil))
  (sSeq lp_l_powered_2
  (sRet (eL fTuple (lCons (eV 2) lNil)))))
noncomputable def m_l_powered : Fun := fnOf 9 [false, false] b_l_powered
noncomputable def lb_repeat_map_1 : MS :=
  (sSeq (sIf (bB (e2 fEq2 (e2 fMod (eV 1) (eC (.int 2))) (eC (.int 1)))) (sAsg (gN 2) (eCall m_compose_maps [.e (eVk 2), .e (eVk 3)])) sPass)
  (sSeq (sAsg (gN 3) (eCall m_compose_maps [.e (eVk 3), .e (eVk 3)]))
  (sAug 1 (fI2 gDiv) (eC (.int 2)))))
noncomputable def lp_repeat_map_1 : MS :=
  (sWhile (bB (e2 fGt (eV 1) (eC (.int 0)))) lb_repeat_map_1)
noncomputable def ce_repeat_map_1 : ME :=
  (eTup (lCons (eVk 4) (lCons (eC (.int 0)) lNil)))
noncomputable def cp_repeat_map_1 : ME :=
  (eLc (iOf rng1 (lCons (eL fLen (lCons (eV 0) lNil)) lNil)) (gN 4) bYes ce_repeat_map_1 [4])
noncomputable def b_repeat_map : MS :=
  (sSeq (sPar 2 3 (lCons (eL fTuple (lCons cp_repeat_map_1 lNil)) (lCons (eVk 0) lNil)))
  (sSeq lp_repeat_map_1
  (sRet (eMv 2))))
noncomputable def m_repeat_map : Fun := fnOf 3 [false, false] b_repeat_map
noncomputable def lb_l_right_k25_1 : MS :=
  (sIf (bB (e2 fNe2 (eL fRepr (lCons (eCall m_repeat_map [.e (eVk 5), .e (eVk 9)]) lNil)) (eL fRepr (lCons (eCall m_l_map [.e (eVk 1), .e (eFk (e2 fMul2 (e2 fIx (eV 3) (eC (.int 1))) (eV 9)))]) lNil)))) (sRet (eC (.bl false))) sPass)
noncomputable def lp_l_right_k25_1 : MS :=
  (sFor (iOf rng1 (lCons (eC (.int 8)) lNil)) (gN 9) lb_l_right_k25_1)
noncomputable def ce_l_right_k25_1 : ME :=
  (eCall m_code_map [.e (eVk 2), .e (eVk 12)])
noncomputable def cp_l_right_k25_1 : ME :=
  (eLc (iSeq (eVk 3)) (gN 12) bYes ce_l_right_k25_1 [12])
noncomputable def ce_l_right_k25_2 : ME :=
  (eCall m_l_bytes [.io 0, .e (eVk 1), .e (eFk (eCall m_l_take [.io 0, .e (eC (.int 21))]))])
noncomputable def cp_l_right_k25_2 : ME :=
  (eLc (iOf rng1 (lCons (eC (.int 3)) lNil)) (gN 11) bYes ce_l_right_k25_2 [11])
noncomputable def b_l_right_k25 : MS :=
  (sSeq (sAsg (gN 1) (eCall m_l_small [.io 0]))
  (sSeq (sParN [2, 3] (lCons (eCall m_l_machine [.e (eVk 1)]) (lCons cp_l_right_k25_2 lNil)))
  (sSeq (sAsg (gUL (gsCons (gN 4) (gsCons (gN 5) (gsCons (gN 6) gsNil)))) cp_l_right_k25_1)
  (sSeq (sAsg (gN 7) (eL fRepr (lCons (eCall m_l_map [.e (eVk 1), .e (eFk (e2 fAdd (e2 fAdd (e2 fIx (eV 3) (eC (.int 0))) (e2 fIx (eV 3) (eC (.int 1)))) (e2 fIx (eV 3) (eC (.int 2)))))]) lNil)))
  (sSeq (sIf (bB (e2 fNe2 (eL fRepr (lCons (eCall m_compose_maps [.e (eFk (eCall m_compose_maps [.e (eVk 4), .e (eVk 5)])), .e (eVk 6)]) lNil)) (eV 7))) (sRet (eC (.bl false))) sPass)
  (sSeq (sIf (bB (e2 fNe2 (eL fRepr (lCons (eCall m_compose_maps [.e (eVk 4), .e (eFk (eCall m_compose_maps [.e (eVk 5), .e (eVk 6)]))]) lNil)) (eV 7))) (sRet (eC (.bl false))) sPass)
  (sSeq (sAsg (gN 8) (eCall m_identity_map [.e (eVk 2)]))
  (sSeq (sIf (bB (e2 fNe2 (eL fRepr (lCons (eLst (lCons (eCall m_compose_maps [.e (eVk 8), .e (eVk 4)]) (lCons (eCall m_compose_maps [.e (eVk 4), .e (eVk 8)]) lNil))) lNil)) (eL fRepr (lCons (eLst (lCons (eVk 4) (lCons (eVk 4) lNil))) lNil)))) (sRet (eC (.bl false))) sPass)
  (sSeq lp_l_right_k25_1
  (sSeq (sAsg (gN 10) (eCall m_l_of [.io 0, .e (eFk (eLst (lCons (e2 fPow (eC (.int 10)) (eC (.int 29))) (lCons (e2 fPow (eC (.int 10)) (eC (.int 15))) (lCons (e2 fSub (e2 fPow (eC (.int 2)) (eC (.int 60))) (eC (.int 1))) (lCons (e2 fPow (eC (.int 2)) (eC (.int 60))) (lCons (eCall m_l_take [.io 0, .e (eFk (e2 fPow (eC (.int 10)) (eC (.int 18))))]) lNil)))))))]))
  (sRet (e2 fEq2 (eL fRepr (lCons (eCall m_repeat_map [.e (eVk 4), .e (eVk 10)]) lNil)) (eL fRepr (lCons (eCall m_l_powered [.e (eFk (eCall m_l_map [.e (eVk 1), .e (eK (e2 fIx (eV 3) (eC (.int 0))))])), .e (eVk 10)]) lNil))))))))))))))
noncomputable def m_l_right_k25 : Fun := fnOf 12 [true] b_l_right_k25
noncomputable def ce_law_k25_1 : ME :=
  (eCall (fDrop [true] [false] m_l_right_k25) [.e (eCall m_l_box [.e (eVk 0), .e (eVk 1)])])
noncomputable def cp_law_k25_1 : ME :=
  (eLc (iOf rng1 (lCons (eL fMax2 (lCons (eC (.int 1)) (lCons (eL fMin2 (lCons (eC (.int 3)) (lCons (eL fLen (lCons (eV 0) lNil)) lNil))) lNil))) lNil)) (gN 1) bYes ce_law_k25_1 [1])
noncomputable def b_law_k25 : MS :=
  (sRet (eL fAll (lCons cp_law_k25_1 lNil)))
noncomputable def m_law_k25 : Fun := fnOf 1 [false] b_law_k25
end Mi

set_option maxHeartbeats 4000000
set_option exponentiation.threshold 100000
namespace Mi
open PySem PySem.Spec PyProof.Rows L2 RZ Ov PpSet
local macro_rules | `(tactic| walk_at "ev") => `(tactic| simp -dsimp only [*, b_bo, b_b0, v_bo, v_b0, v_c, v_v, v_mv, v_vk, v_k, v_fk, v_nil, v_cons, v_1, v_2, v_L, v_bB, asB_b, v_bAnd, v_bOr, v_bNot, v_bYes, v_if, v_and, v_or, v_not, v_tup, v_lst, v_fld, asI_i, v_oN, v_oS, optI_i, v_sl, v_rg1, v_rg2, v_lrg, v_trg, chainK_b, v_chain,
  Fl.k_nx, Fl.k_rt, Fl.k_bk, Fl.k_ct, v_seq, v_pass, v_bk, v_ct, v_ret, v_retN, v_expr, v_sif, v_asg, optE_s, v_gN, v_gT, v_gsN, v_gsC, Option.bind_some, v_par, v_par3, v_aug, v_put, v_sfld, v_for, optL_s, v_iSeq, v_iOf, v_iStr, v_lc, v_mList, Rf.back_ok, optP_s, v_callF, v_call, v_aN, v_aE, v_aI, v_fN, v_fE, v_fI, optD_s, Option.map_some,
  v_kN, v_kE, v_kI, v_methE, v_methI, Rf.newB_ok, v_new, fin_rt, fin_nx, getR_s, liftK_s, R.ite_t, R.ite_f, List.getElem?_cons_zero, List.getElem?_cons_succ, List.set_cons_zero, List.set_cons_succ, List.map_cons, List.map_nil, List.cons_append, List.nil_append, List.replicate_succ, List.replicate_zero, k2_s, k3_s, insK_s, strK_s, mlK_s, optF_s, joinO_s, v_gp, v_gq, fldO_s, v_gf, setO_s, v_gs, optR_s, al_n, al_c, pi_t, pi_f, pi_n, wi_n, wi_c,
  add_i, sub_i, mod_i, div_i, pow_60, pow_18, lt_i, le_i, gt_i, ge_i, mul_i, is_n, nis_n, is_i, nis_i, is_t, nis_t, ix_t, ix_l, ix_s, set0, set1, set2, len_t, len_l, len_s, abs_i, int_i, int_b, sl_l, sl_t, fz_l, fz_t, fz_d, fz_i, seq_t, seq_l, zip_l, zip_t, enum_l, tuple_l, tuple_t, list_l, list_t, neg_i, isa_isInt_non, isa_isInt_bl, isa_isInt_int, isa_isInt_str, isa_isInt_tup, isa_isInt_lst, isa_isInt_scr, isa_isInt_dct, isa_isBool_non, isa_isBool_bl, isa_isBool_int, isa_isBool_str, isa_isBool_tup, isa_isBool_lst, isa_isBool_scr, isa_isBool_dct, isa_isStr_non, isa_isStr_bl, isa_isStr_int, isa_isStr_str, isa_isStr_tup, isa_isStr_lst, isa_isStr_scr, isa_isStr_dct, isa_isTuple_non, isa_isTuple_bl, isa_isTuple_int, isa_isTuple_str, isa_isTuple_tup, isa_isTuple_lst, isa_isTuple_scr, isa_isTuple_dct, isa_isList_non, isa_isList_bl, isa_isList_int, isa_isList_str, isa_isList_tup, isa_isList_lst, isa_isList_scr, isa_isList_dct, isa_isDict_non, isa_isDict_bl, isa_isDict_int, isa_isDict_str, isa_isDict_tup, isa_isDict_lst, isa_isDict_scr, isa_isDict_dct, eq_i, ne_i, eq_s, ne_s, fzn_1, fzn_2, fzn_3, fzn_4, fzn_5, fzn_6, fzn_7, fzn_8, fzn_9, fzn_s, fznL_n, fznL_c, fznK_n, fznK_c, fznF_n, fznF_c, sz0, sz1, sz2, sz3, sz4, sz5, sz6, sz7, sz8, pk1, pk2, pk3, pk4, fzL_n, fzL_c, fz_int, fz_bl, fz_str, fz_non, putD_n, putD_c, at0, at1, at2, at3, ix0, ix1, ix2, Bool.not_true, Bool.not_false, Bool.true_and, Bool.and_true, Bool.false_and, Bool.and_false, Bool.or_true, Bool.true_or, Bool.false_or, Bool.or_false, if_true, if_false, Bool.false_eq_true, decide_true, decide_false, and_self, and_true, true_and, not_true_eq_false, not_false_eq_true, ne_eq, false_and, and_false, eq_self])
local macro_rules | `(tactic| walk_at "env") => `(tactic| simp only [List.map_cons, List.map_nil, List.cons_append, List.nil_append, List.replicate_succ, List.replicate_zero])
local macro_rules | `(tactic| walk_at "ew") => `(tactic| simp -dsimp only [*, b_bo, b_b0, v_bo, v_b0, v_c, v_v, v_mv, v_vk, v_k, v_fk, v_nil, v_cons, v_1, v_2, v_L, v_bB, asB_b, v_bAnd, v_bOr, v_bNot, v_bYes, v_if, v_and, v_or, v_not, v_tup, v_lst, v_fld, asI_i, v_oN, v_oS, optI_i, v_sl, v_rg1, v_rg2, v_lrg, v_trg, chainK_b, v_chain,
  Fl.k_nx, Fl.k_rt, Fl.k_bk, Fl.k_ct, v_seq, v_pass, v_bk, v_ct, v_ret, v_retN, v_expr, v_sif, v_asg, optE_s, v_gN, v_gT, v_gsN, v_gsC, Option.bind_some, v_par, v_par3, v_aug, v_put, v_sfld, v_for, optL_s, v_iSeq, v_iOf, v_iStr, v_lc, v_mList, Rf.back_ok, optP_s, v_callF, v_call, v_aN, v_aE, v_aI, v_fN, v_fE, v_fI, optD_s, Option.map_some,
  v_kN, v_kE, v_kI, v_methE, v_methI, Rf.newB_ok, v_new, fin_rt, fin_nx, getR_s, liftK_s, R.ite_t, R.ite_f, List.getElem?_cons_zero, List.getElem?_cons_succ, List.set_cons_zero, List.set_cons_succ, List.map_cons, List.map_nil, List.cons_append, List.nil_append, List.replicate_succ, List.replicate_zero, k2_s, k3_s, insK_s, strK_s, mlK_s, optF_s, joinO_s, v_gp, v_gq, fldO_s, v_gf, setO_s, v_gs, optR_s, al_n, al_c, pi_t, pi_f, pi_n, wi_n, wi_c,
  add_i, sub_i, mod_i, div_i, pow_60, pow_18, lt_i, le_i, gt_i, ge_i, mul_i, is_n, nis_n, is_i, nis_i, is_t, nis_t, ix_t, ix_l, ix_s, set0, set1, set2, len_t, len_l, len_s, abs_i, int_i, int_b, sl_l, sl_t, fz_l, fz_t, fz_d, fz_i, seq_t, seq_l, zip_l, zip_t, enum_l, tuple_l, tuple_t, list_l, list_t, neg_i, isa_isInt_non, isa_isInt_bl, isa_isInt_int, isa_isInt_str, isa_isInt_tup, isa_isInt_lst, isa_isInt_scr, isa_isInt_dct, isa_isBool_non, isa_isBool_bl, isa_isBool_int, isa_isBool_str, isa_isBool_tup, isa_isBool_lst, isa_isBool_scr, isa_isBool_dct, isa_isStr_non, isa_isStr_bl, isa_isStr_int, isa_isStr_str, isa_isStr_tup, isa_isStr_lst, isa_isStr_scr, isa_isStr_dct, isa_isTuple_non, isa_isTuple_bl, isa_isTuple_int, isa_isTuple_str, isa_isTuple_tup, isa_isTuple_lst, isa_isTuple_scr, isa_isTuple_dct, isa_isList_non, isa_isList_bl, isa_isList_int, isa_isList_str, isa_isList_tup, isa_isList_lst, isa_isList_scr, isa_isList_dct, isa_isDict_non, isa_isDict_bl, isa_isDict_int, isa_isDict_str, isa_isDict_tup, isa_isDict_lst, isa_isDict_scr, isa_isDict_dct, eq_i, ne_i, eq_s, ne_s, fzn_1, fzn_2, fzn_3, fzn_4, fzn_5, fzn_6, fzn_7, fzn_8, fzn_9, fzn_s, fznL_n, fznL_c, fznK_n, fznK_c, fznF_n, fznF_c, sz0, sz1, sz2, sz3, sz4, sz5, sz6, sz7, sz8, pk1, pk2, pk3, pk4, fzL_n, fzL_c, fz_int, fz_bl, fz_str, fz_non, putD_n, putD_c, at0, at1, at2, at3, ix0, ix1, ix2, Bool.not_true, Bool.not_false, Bool.true_and, Bool.and_true, Bool.false_and, Bool.and_false, Bool.or_true, Bool.true_or, Bool.false_or, Bool.or_false, if_true, if_false, Bool.false_eq_true, decide_true, decide_false, and_self, and_true, true_and, not_true_eq_false, not_false_eq_true, ne_eq, false_and, and_false, eq_self, v_parN, po2, po3, po4, se_n, se_c, v_gUL, v_dnew, fi2_i, gdiv_i])
/-! ### maps as functions -/
abbrev MF := Nat → Option Nat × Nat
def oF (f g : MF) : MF := fun q => match (f q).1 with | none => (none, (f q).2) | some k => ((g k).1, (f q).2 + (g k).2)
def eF : MF := fun q => (some q, 0)
theorem oF_n {f g : MF} {q : Nat} (h : (f q).1 = none) : oF f g q = (none, (f q).2) := by unfold oF; rw [h]
theorem oF_s {f g : MF} {q k : Nat} (h : (f q).1 = some k) : oF f g q = ((g k).1, (f q).2 + (g k).2) := by unfold oF; rw [h]
theorem oF_assoc (f g h : MF) : oF (oF f g) h = oF f (oF g h) := by
  funext q
  cases e : (f q).1 with
  | none =>
    rw [oF_n (g := oF g h) e]
    have e2 : (oF f g q).1 = none := by rw [oF_n e]
    rw [oF_n e2, oF_n e]
  | some k =>
    rw [oF_s (g := oF g h) e]
    cases e3 : (g k).1 with
    | none =>
      have e2 : (oF f g q).1 = none := by rw [oF_s e, e3]
      rw [oF_n e2, oF_s e, oF_n e3]
    | some j =>
      have e2 : (oF f g q).1 = some j := by rw [oF_s e, e3]
      rw [oF_s e2, oF_s e, oF_s e3]
      simp [Nat.add_assoc]
theorem oF_eL (f : MF) : oF eF f = f := by
  funext q
  rw [oF_s (k := q) rfl]
  simp [eF]
theorem oF_eR (f : MF) : oF f eF = f := by
  funext q
  cases e : (f q).1 with
  | none => rw [oF_n e, ← e]
  | some k => rw [oF_s e]; simp [eF, ← e]
def powF (f : MF) : Nat → MF
  | 0 => eF
  | n + 1 => oF f (powF f n)
theorem powF_add (f : MF) (a b : Nat) : powF f (a + b) = oF (powF f a) (powF f b) := by
  induction a with
  | zero => rw [Nat.zero_add, powF, oF_eL]
  | succ a ih => rw [Nat.succ_add, powF, ih, powF, oF_assoc]
theorem powF_one (f : MF) : powF f 1 = f := by rw [powF, powF, oF_eR]
theorem powF_succ (f : MF) (n : Nat) : powF f (n + 1) = oF (powF f n) f := by rw [powF_add, powF_one]
theorem powF_sq (f : MF) (t : Nat) : powF (oF f f) t = powF f (2 * t) := by
  induction t with
  | zero => rfl
  | succ t ih => rw [powF, ih, show 2 * (t + 1) = 2 * t + 1 + 1 by omega, powF, powF, oF_assoc]
def Good (L : Nat) (f : MF) : Prop := ∀ q < L, ∀ k, (f q).1 = some k → k < L
theorem good_e {L : Nat} : Good L eF := fun q hq k h => by have : q = k := Option.some.inj h; omega
theorem good_c {L : Nat} {f g : MF} (hf : Good L f) (hg : Good L g) : Good L (oF f g) := fun q hq k h => by
  cases e : (f q).1 with
  | none => rw [oF_n e] at h; cases h
  | some j => rw [oF_s e] at h; exact hg j (hf q hq j e) k h
theorem good_p {L : Nat} {f : MF} (hf : Good L f) : ∀ n, Good L (powF f n)
  | 0 => good_e
  | n + 1 => good_c hf (good_p hf n)
theorem pow_cnt {L M : Nat} {f : MF} (hf : Good L f) (hM : ∀ q < L, (f q).2 ≤ M) : ∀ n q, q < L → (powF f n q).2 ≤ n * M
  | 0, q, _ => by simp [powF, eF]
  | n + 1, q, hq => by
    have h1 := hM q hq
    rw [powF, Nat.succ_mul]
    cases e : (f q).1 with
    | none => rw [oF_n e]; simp; omega
    | some k =>
      rw [oF_s e]
      have := pow_cnt hf hM n k (hf q hq k e)
      simp
      omega
theorem mapF_app {rs : List Row} {a b : List Nat} : mapF rs (a ++ b) = oF (mapF rs a) (mapF rs b) := by
  funext k
  induction a generalizing k with
  | nil => rw [List.nil_append, oF_s (k := k) (by rw [mapF])]; simp [mapF]
  | cons x a ih =>
    cases k with
    | succ k =>
      rw [List.cons_append, mapF, ih]
      unfold oF
      rw [mapF]
    | zero =>
      rw [List.cons_append, mapF]
      by_cases g : lenAt rs x = 0
      · rw [if_pos g, oF_n (by rw [mapF, if_pos g]), mapF, if_pos g]
      · rw [if_neg g, ih]
        cases e : (mapF rs a (lenAt rs x - 1)).1 with
        | none => rw [oF_n e, oF_n (by rw [mapF, if_neg g]; exact e), mapF, if_neg g]
        | some j =>
          rw [oF_s e, oF_s (k := j) (by rw [mapF, if_neg g]; exact e), mapF, if_neg g]
          simp
          omega
theorem mapF_nil {rs : List Row} : mapF rs [] = eF := by funext q; rw [mapF]; rfl
theorem mapF_rep {rs : List Row} {code : List Nat} : ∀ n, mapF rs (List.replicate n code).flatten = powF (mapF rs code) n
  | 0 => by rw [List.replicate_zero, List.flatten_nil, mapF_nil, powF]
  | n + 1 => by rw [List.replicate_succ, List.flatten_cons, mapF_app, mapF_rep n, powF]
theorem good_map {c L : Nat} {rs : List Row} {code : List Nat} (h : TabOk c L rs) : Good (lng rs) (mapF rs code) := by
  have key : ∀ (code : List Nat) (k : Nat), k < lng rs → ∀ o, (mapF rs code k).1 = some o → o < lng rs := by
    intro code
    induction code with
    | nil => intro k hk o ho; rw [mapF] at ho; have : k = o := Option.some.inj ho; omega
    | cons b bs ih =>
      intro k hk o ho
      cases k with
      | succ k => rw [mapF] at ho; exact ih k (by omega) o ho
      | zero =>
        rw [mapF] at ho
        split at ho
        · cases ho
        · have := lenAt_le h b
          exact ih _ (by omega) o ho
  exact fun q hq o ho => key code q hq o ho
def tabM (L : Nat) (f : MF) : D := .tup ((List.range L).map fun q => encM (f q))
theorem fzn_tabM {L : Nat} {f : MF} : fzn (tabM L f) = true := by
  unfold tabM
  rw [fzn_5]
  exact fznL_map fun q _ => fzn_encM _
end Mi

set_option maxHeartbeats 4000000
set_option exponentiation.threshold 100000
namespace Mi
open PySem PySem.Spec PyProof.Rows L2 RZ Ov PpSet
local macro_rules | `(tactic| walk_at "ev") => `(tactic| simp -dsimp only [*, b_bo, b_b0, v_bo, v_b0, v_c, v_v, v_mv, v_vk, v_k, v_fk, v_nil, v_cons, v_1, v_2, v_L, v_bB, asB_b, v_bAnd, v_bOr, v_bNot, v_bYes, v_if, v_and, v_or, v_not, v_tup, v_lst, v_fld, asI_i, v_oN, v_oS, optI_i, v_sl, v_rg1, v_rg2, v_lrg, v_trg, chainK_b, v_chain,
  Fl.k_nx, Fl.k_rt, Fl.k_bk, Fl.k_ct, v_seq, v_pass, v_bk, v_ct, v_ret, v_retN, v_expr, v_sif, v_asg, optE_s, v_gN, v_gT, v_gsN, v_gsC, Option.bind_some, v_par, v_par3, v_aug, v_put, v_sfld, v_for, optL_s, v_iSeq, v_iOf, v_iStr, v_lc, v_mList, Rf.back_ok, optP_s, v_callF, v_call, v_aN, v_aE, v_aI, v_fN, v_fE, v_fI, optD_s, Option.map_some,
  v_kN, v_kE, v_kI, v_methE, v_methI, Rf.newB_ok, v_new, fin_rt, fin_nx, getR_s, liftK_s, R.ite_t, R.ite_f, List.getElem?_cons_zero, List.getElem?_cons_succ, List.set_cons_zero, List.set_cons_succ, List.map_cons, List.map_nil, List.cons_append, List.nil_append, List.replicate_succ, List.replicate_zero, k2_s, k3_s, insK_s, strK_s, mlK_s, optF_s, joinO_s, v_gp, v_gq, fldO_s, v_gf, setO_s, v_gs, optR_s, al_n, al_c, pi_t, pi_f, pi_n, wi_n, wi_c,
  add_i, sub_i, mod_i, div_i, pow_60, pow_18, lt_i, le_i, gt_i, ge_i, mul_i, is_n, nis_n, is_i, nis_i, is_t, nis_t, ix_t, ix_l, ix_s, set0, set1, set2, len_t, len_l, len_s, abs_i, int_i, int_b, sl_l, sl_t, fz_l, fz_t, fz_d, fz_i, seq_t, seq_l, zip_l, zip_t, enum_l, tuple_l, tuple_t, list_l, list_t, neg_i, isa_isInt_non, isa_isInt_bl, isa_isInt_int, isa_isInt_str, isa_isInt_tup, isa_isInt_lst, isa_isInt_scr, isa_isInt_dct, isa_isBool_non, isa_isBool_bl, isa_isBool_int, isa_isBool_str, isa_isBool_tup, isa_isBool_lst, isa_isBool_scr, isa_isBool_dct, isa_isStr_non, isa_isStr_bl, isa_isStr_int, isa_isStr_str, isa_isStr_tup, isa_isStr_lst, isa_isStr_scr, isa_isStr_dct, isa_isTuple_non, isa_isTuple_bl, isa_isTuple_int, isa_isTuple_str, isa_isTuple_tup, isa_isTuple_lst, isa_isTuple_scr, isa_isTuple_dct, isa_isList_non, isa_isList_bl, isa_isList_int, isa_isList_str, isa_isList_tup, isa_isList_lst, isa_isList_scr, isa_isList_dct, isa_isDict_non, isa_isDict_bl, isa_isDict_int, isa_isDict_str, isa_isDict_tup, isa_isDict_lst, isa_isDict_scr, isa_isDict_dct, eq_i, ne_i, eq_s, ne_s, fzn_1, fzn_2, fzn_3, fzn_4, fzn_5, fzn_6, fzn_7, fzn_8, fzn_9, fzn_s, fznL_n, fznL_c, fznK_n, fznK_c, fznF_n, fznF_c, sz0, sz1, sz2, sz3, sz4, sz5, sz6, sz7, sz8, pk1, pk2, pk3, pk4, fzL_n, fzL_c, fz_int, fz_bl, fz_str, fz_non, putD_n, putD_c, at0, at1, at2, at3, ix0, ix1, ix2, Bool.not_true, Bool.not_false, Bool.true_and, Bool.and_true, Bool.false_and, Bool.and_false, Bool.or_true, Bool.true_or, Bool.false_or, Bool.or_false, if_true, if_false, Bool.false_eq_true, decide_true, decide_false, and_self, and_true, true_and, not_true_eq_false, not_false_eq_true, ne_eq, false_and, and_false, eq_self])
local macro_rules | `(tactic| walk_at "env") => `(tactic| simp only [List.map_cons, List.map_nil, List.cons_append, List.nil_append, List.replicate_succ, List.replicate_zero])
local macro_rules | `(tactic| walk_at "ew") => `(tactic| simp -dsimp only [*, b_bo, b_b0, v_bo, v_b0, v_c, v_v, v_mv, v_vk, v_k, v_fk, v_nil, v_cons, v_1, v_2, v_L, v_bB, asB_b, v_bAnd, v_bOr, v_bNot, v_bYes, v_if, v_and, v_or, v_not, v_tup, v_lst, v_fld, asI_i, v_oN, v_oS, optI_i, v_sl, v_rg1, v_rg2, v_lrg, v_trg, chainK_b, v_chain,
  Fl.k_nx, Fl.k_rt, Fl.k_bk, Fl.k_ct, v_seq, v_pass, v_bk, v_ct, v_ret, v_retN, v_expr, v_sif, v_asg, optE_s, v_gN, v_gT, v_gsN, v_gsC, Option.bind_some, v_par, v_par3, v_aug, v_put, v_sfld, v_for, optL_s, v_iSeq, v_iOf, v_iStr, v_lc, v_mList, Rf.back_ok, optP_s, v_callF, v_call, v_aN, v_aE, v_aI, v_fN, v_fE, v_fI, optD_s, Option.map_some,
  v_kN, v_kE, v_kI, v_methE, v_methI, Rf.newB_ok, v_new, fin_rt, fin_nx, getR_s, liftK_s, R.ite_t, R.ite_f, List.getElem?_cons_zero, List.getElem?_cons_succ, List.set_cons_zero, List.set_cons_succ, List.map_cons, List.map_nil, List.cons_append, List.nil_append, List.replicate_succ, List.replicate_zero, k2_s, k3_s, insK_s, strK_s, mlK_s, optF_s, joinO_s, v_gp, v_gq, fldO_s, v_gf, setO_s, v_gs, optR_s, al_n, al_c, pi_t, pi_f, pi_n, wi_n, wi_c,
  add_i, sub_i, mod_i, div_i, pow_60, pow_18, lt_i, le_i, gt_i, ge_i, mul_i, is_n, nis_n, is_i, nis_i, is_t, nis_t, ix_t, ix_l, ix_s, set0, set1, set2, len_t, len_l, len_s, abs_i, int_i, int_b, sl_l, sl_t, fz_l, fz_t, fz_d, fz_i, seq_t, seq_l, zip_l, zip_t, enum_l, tuple_l, tuple_t, list_l, list_t, neg_i, isa_isInt_non, isa_isInt_bl, isa_isInt_int, isa_isInt_str, isa_isInt_tup, isa_isInt_lst, isa_isInt_scr, isa_isInt_dct, isa_isBool_non, isa_isBool_bl, isa_isBool_int, isa_isBool_str, isa_isBool_tup, isa_isBool_lst, isa_isBool_scr, isa_isBool_dct, isa_isStr_non, isa_isStr_bl, isa_isStr_int, isa_isStr_str, isa_isStr_tup, isa_isStr_lst, isa_isStr_scr, isa_isStr_dct, isa_isTuple_non, isa_isTuple_bl, isa_isTuple_int, isa_isTuple_str, isa_isTuple_tup, isa_isTuple_lst, isa_isTuple_scr, isa_isTuple_dct, isa_isList_non, isa_isList_bl, isa_isList_int, isa_isList_str, isa_isList_tup, isa_isList_lst, isa_isList_scr, isa_isList_dct, isa_isDict_non, isa_isDict_bl, isa_isDict_int, isa_isDict_str, isa_isDict_tup, isa_isDict_lst, isa_isDict_scr, isa_isDict_dct, eq_i, ne_i, eq_s, ne_s, fzn_1, fzn_2, fzn_3, fzn_4, fzn_5, fzn_6, fzn_7, fzn_8, fzn_9, fzn_s, fznL_n, fznL_c, fznK_n, fznK_c, fznF_n, fznF_c, sz0, sz1, sz2, sz3, sz4, sz5, sz6, sz7, sz8, pk1, pk2, pk3, pk4, fzL_n, fzL_c, fz_int, fz_bl, fz_str, fz_non, putD_n, putD_c, at0, at1, at2, at3, ix0, ix1, ix2, Bool.not_true, Bool.not_false, Bool.true_and, Bool.and_true, Bool.false_and, Bool.and_false, Bool.or_true, Bool.true_or, Bool.false_or, Bool.or_false, if_true, if_false, Bool.false_eq_true, decide_true, decide_false, and_self, and_true, true_and, not_true_eq_false, not_false_eq_true, ne_eq, false_and, and_false, eq_self, v_parN, po2, po3, po4, se_n, se_c, v_gUL, v_dnew, fi2_i, gdiv_i])
/-! ### compose_maps, repeat_map -/
theorem len_tabM {L : Nat} {f : MF} : fLen [tabM L f] = some (.int L) := by
  unfold tabM
  rw [len_t]
  simp
theorem at_tabM {L : Nat} {f : MF} {k : Nat} (h : k < L) : fIx (tabM L f) (.int (k : Int)) = some (encM (f k)) := by
  unfold tabM
  rw [ix_t]
  refine atI_nat ?_
  rw [List.getElem?_map, List.getElem?_range h]
  rfl
theorem app_range {L i : Nat} {f : MF} (hi : i < L) (hL : L ≤ 1000) : fAppend ((List.range i).map fun q => encM (f q)) [encM (f i)] = some (.non, (List.range (i + 1)).map fun q => encM (f q)) := by
  unfold fAppend
  simp only [List.length_map, List.length_range]
  rw [if_pos (Nat.lt_of_lt_of_le (by omega : i < 1000) (by decide)), List.range_succ, List.map_append]
  rfl
theorem compose_spec {L : Nat} {f g : MF} (hL : L ≤ 1000) (hf : Good L f) : m_compose_maps [tabM L f, tabM L g] = .ok (tabM L (oF f g)) [] := by
  have z := @fzn_tabM
  obtain ⟨e', h1, x3, x4, x5, x6, h2⟩ := for_inv (g := gT (gsCons (gN 3) (gsCons (gN 4) gsNil))) (m := lb_compose_maps_1) ((List.range L).map fun q => encM (f q)) (fun i env => ∃ x3 x4 x5 x6, env = [some (tabM L f), some (tabM L g), some (.lst true ((List.range i).map fun q => encM (oF f g q))), x3, x4, x5, x6]) (by
    rintro i d _ hd ⟨x3, x4, x5, x6, rfl⟩
    have hi : i < L := by
      rcases Nat.lt_or_ge i L with g | g
      · exact g
      · rw [List.getElem?_eq_none (by simpa using g)] at hd; cases hd
    rw [List.getElem?_map, List.getElem?_range hi] at hd
    cases hd
    have ha := app_range (f := oF f g) hi hL
    generalize (List.range i).map (fun q => encM (oF f g q)) = Fi at *
    generalize (List.range (i + 1)).map (fun q => encM (oF f g q)) = Fj at *
    have hgo := hf i hi
    cases e : (f i).1 with
    | none =>
      rw [oF_n e] at ha
      refine ⟨[some (tabM L f), some (tabM L g), some (.lst true Fi), some .non, some (.int (f i).2), x5, x6], [some (tabM L f), some (tabM L g), some (.lst true Fj), some .non, some (.int (f i).2), some .non, some (.int 0)], ?_, .inl ?_, _, _, _, _, rfl⟩
      · show gT _ (encM (f i)) _ = _
        unfold encM
        rw [e]
        rfl
      · unfold encM oI at ha
        have e0 : ((f i).2 : Int) + 0 = (f i).2 := by omega
        clear hf hgo e hi hL
        unfold lb_compose_maps_1
        walk_at "ew"
    | some k =>
      have hk := at_tabM (f := g) (hgo k e)
      rw [oF_s e] at ha
      refine ⟨[some (tabM L f), some (tabM L g), some (.lst true Fi), some (.int k), some (.int (f i).2), x5, x6], [some (tabM L f), some (tabM L g), some (.lst true Fj), some (.int k), some (.int (f i).2), some (oI (g k).1), some (.int (g k).2)], ?_, .inl ?_, _, _, _, _, rfl⟩
      · show gT _ (encM (f i)) _ = _
        unfold encM
        rw [e]
        rfl
      · unfold encM at ha hk
        simp only at ha
        have e0 : ((f i).2 : Int) + ((g k).2 : Int) = (((f i).2 + (g k).2 : Nat) : Int) := by omega
        have zo := fzn_oI (g k).1
        clear hf hgo e hi hL
        unfold lb_compose_maps_1
        walk_at "ew") (env := [some (tabM L f), some (tabM L g), some (.lst true []), none, none, none, none]) ⟨none, none, none, none, rfl⟩
  simp only [List.length_map, List.length_range] at h2
  subst h2
  have h3 : lp_compose_maps_1 [some (tabM L f), some (tabM L g), some (.lst true []), none, none, none, none] = .ok .nx [some (tabM L f), some (tabM L g), some (.lst true ((List.range L).map fun q => encM (oF f g q))), x3, x4, x5, x6] := by
    unfold lp_compose_maps_1
    rw [← h1]
    have zz : seqD (fz (tabM L f)) = some ((List.range L).map fun q => encM (f q)) := by rw [fz_same _ fzn_tabM]; rfl
    clear h1 hf hL
    walk_at "ew"
  have z2 : fznL ((List.range L).map fun q => encM (oF f g q)) = true := fznL_map fun q _ => fzn_encM _
  clear h1 hf hL
  unfold m_compose_maps b_compose_maps
  rw [v_fn]
  have et : tabM L (oF f g) = .tup ((List.range L).map fun q => encM (oF f g q)) := rfl
  rw [et]
  walk_at "ew"
theorem repeat_spec {L n : Nat} {f : MF} (hL : L ≤ 1000) (hf : Good L f) : m_repeat_map [tabM L f, .int n] = .ok (tabM L (powF f n)) [] := by
  have z := @fzn_tabM
  have hl := @len_tabM
  have hcp : cp_repeat_map_1 [some (tabM L f), some (.int n), none, none, none] = .ok (.lst true ((List.range L).map fun q => encM (eF q))) [some (tabM L f), some (.int n), none, none, none] := by
    unfold cp_repeat_map_1
    refine eLc_map (List.range L) (fun k : Nat => .int (k : Int)) _ (e := [some (tabM L f), some (.int n), none, none, none]) ?_ rfl (by rw [List.length_range]; exact Nat.le_trans hL (by decide)) fun q hq => ⟨[some (tabM L f), some (.int n), none, none, some (.int q)], rfl, ?_, rfl⟩
    · have := rng1_n (j := L) (by omega)
      clear hL hf
      walk_at "ew"
    · unfold ce_repeat_map_1 encM eF oI
      clear hL hf
      walk_at "ew"
      rfl
  obtain ⟨e', h1, po, h2⟩ := while_inv (c := bB (e2 fGt (eV 1) (eC (.int 0)))) (m := lb_repeat_map_1) (fun env => ∃ (t : Nat) (fo po : MF), env = [some (tabM L f), some (.int t), some (tabM L fo), some (tabM L po), none] ∧ Good L fo ∧ Good L po ∧ oF fo (powF po t) = powF f n)
    (fun env => ∃ po : MF, env = [some (tabM L f), some (.int 0), some (tabM L (powF f n)), some (tabM L po), none]) (fun env : Env => match env[1]? with | some (some (D.int i)) => i.toNat | _ => 0) (by
      rintro _ ⟨t, fo, po, rfl, g1, g2, g3⟩
      by_cases h0 : (0 : Int) < (t : Int)
      · left
        have k0 : (0 : Int) < 2 := by decide
        have k1 : (2 : Int).natAbs.log2 < 9000 := by decide +kernel
        have k2 : (t : Int) / 2 = ((t / 2 : Nat) : Int) := by omega
        have c1 := compose_spec (f := fo) (g := po) hL g1
        have c2 := compose_spec (f := po) (g := po) hL g2
        by_cases ho : (t : Int) % 2 = 1
        · refine ⟨[some (tabM L f), some (.int t), some (tabM L fo), some (tabM L po), none], [some (tabM L f), some (.int (t / 2 : Nat)), some (tabM L (oF fo po)), some (tabM L (oF po po)), none], ?_, .inl ?_, ⟨t / 2, oF fo po, oF po po, rfl, good_c g1 g2, good_c g2 g2, ?_⟩, ?_⟩
          · clear g1 g2 g3 hL hf hcp c1 c2
            walk_at "ew"
          · clear g1 g2 g3 hL hf hcp h0
            unfold lb_repeat_map_1
            walk_at "ew"
          · rw [powF_sq, oF_assoc, ← g3]
            have : t = 2 * (t / 2) + 1 := by omega
            rw [show powF po t = powF po (2 * (t / 2) + 1) by rw [← this], powF]
          · show ((t / 2 : Nat) : Int).toNat < ((t : Nat) : Int).toNat
            omega
        · refine ⟨[some (tabM L f), some (.int t), some (tabM L fo), some (tabM L po), none], [some (tabM L f), some (.int (t / 2 : Nat)), some (tabM L fo), some (tabM L (oF po po)), none], ?_, .inl ?_, ⟨t / 2, fo, oF po po, rfl, g1, good_c g2 g2, ?_⟩, ?_⟩
          · clear g1 g2 g3 hL hf hcp c1 c2
            walk_at "ew"
          · clear g1 g2 g3 hL hf hcp h0 c1
            unfold lb_repeat_map_1
            walk_at "ew"
          · rw [powF_sq, ← g3]
            have : t = 2 * (t / 2) := by omega
            rw [← this]
          · show ((t / 2 : Nat) : Int).toNat < ((t : Nat) : Int).toNat
            omega
      · right
        have ht : t = 0 := by omega
        subst ht
        refine ⟨[some (tabM L f), some (.int ((0 : Nat) : Int)), some (tabM L fo), some (tabM L po), none], ?_, po, ?_⟩
        · clear g1 g2 g3 hL hf hcp
          walk_at "ew"
        · rw [← g3, powF, oF_eR]
          rfl) (env := [some (tabM L f), some (.int n), some (tabM L eF), some (tabM L f), none]) ⟨n, eF, f, rfl, good_e, hf, by rw [oF_eL]⟩
  subst h2
  have h3 : lp_repeat_map_1 [some (tabM L f), some (.int n), some (tabM L eF), some (tabM L f), none] = _ := h1
  have z2 : fznL ((List.range L).map fun q => encM (eF q)) = true := fznL_map fun q _ => fzn_encM _
  have et : tabM L eF = .tup ((List.range L).map fun q => encM (eF q)) := rfl
  clear h1 hf hL
  unfold m_repeat_map b_repeat_map
  rw [v_fn]
  walk_at "env"
  refine fin_seq (e := [some (tabM L f), some (.int n), some (tabM L eF), some (tabM L f), none]) ?_ ?_
  · rw [et]
    clear h3
    walk_at "ew"
  refine fin_seq h3 ?_
  clear h3 et hcp
  walk_at "ew"
end Mi

set_option maxHeartbeats 4000000
set_option exponentiation.threshold 100000
namespace Mi
open PySem PySem.Spec PyProof.Rows L2 RZ Ov PpSet
local macro_rules | `(tactic| walk_at "ev") => `(tactic| simp -dsimp only [*, b_bo, b_b0, v_bo, v_b0, v_c, v_v, v_mv, v_vk, v_k, v_fk, v_nil, v_cons, v_1, v_2, v_L, v_bB, asB_b, v_bAnd, v_bOr, v_bNot, v_bYes, v_if, v_and, v_or, v_not, v_tup, v_lst, v_fld, asI_i, v_oN, v_oS, optI_i, v_sl, v_rg1, v_rg2, v_lrg, v_trg, chainK_b, v_chain,
  Fl.k_nx, Fl.k_rt, Fl.k_bk, Fl.k_ct, v_seq, v_pass, v_bk, v_ct, v_ret, v_retN, v_expr, v_sif, v_asg, optE_s, v_gN, v_gT, v_gsN, v_gsC, Option.bind_some, v_par, v_par3, v_aug, v_put, v_sfld, v_for, optL_s, v_iSeq, v_iOf, v_iStr, v_lc, v_mList, Rf.back_ok, optP_s, v_callF, v_call, v_aN, v_aE, v_aI, v_fN, v_fE, v_fI, optD_s, Option.map_some,
  v_kN, v_kE, v_kI, v_methE, v_methI, Rf.newB_ok, v_new, fin_rt, fin_nx, getR_s, liftK_s, R.ite_t, R.ite_f, List.getElem?_cons_zero, List.getElem?_cons_succ, List.set_cons_zero, List.set_cons_succ, List.map_cons, List.map_nil, List.cons_append, List.nil_append, List.replicate_succ, List.replicate_zero, k2_s, k3_s, insK_s, strK_s, mlK_s, optF_s, joinO_s, v_gp, v_gq, fldO_s, v_gf, setO_s, v_gs, optR_s, al_n, al_c, pi_t, pi_f, pi_n, wi_n, wi_c,
  add_i, sub_i, mod_i, div_i, pow_60, pow_18, lt_i, le_i, gt_i, ge_i, mul_i, is_n, nis_n, is_i, nis_i, is_t, nis_t, ix_t, ix_l, ix_s, set0, set1, set2, len_t, len_l, len_s, abs_i, int_i, int_b, sl_l, sl_t, fz_l, fz_t, fz_d, fz_i, seq_t, seq_l, zip_l, zip_t, enum_l, tuple_l, tuple_t, list_l, list_t, neg_i, isa_isInt_non, isa_isInt_bl, isa_isInt_int, isa_isInt_str, isa_isInt_tup, isa_isInt_lst, isa_isInt_scr, isa_isInt_dct, isa_isBool_non, isa_isBool_bl, isa_isBool_int, isa_isBool_str, isa_isBool_tup, isa_isBool_lst, isa_isBool_scr, isa_isBool_dct, isa_isStr_non, isa_isStr_bl, isa_isStr_int, isa_isStr_str, isa_isStr_tup, isa_isStr_lst, isa_isStr_scr, isa_isStr_dct, isa_isTuple_non, isa_isTuple_bl, isa_isTuple_int, isa_isTuple_str, isa_isTuple_tup, isa_isTuple_lst, isa_isTuple_scr, isa_isTuple_dct, isa_isList_non, isa_isList_bl, isa_isList_int, isa_isList_str, isa_isList_tup, isa_isList_lst, isa_isList_scr, isa_isList_dct, isa_isDict_non, isa_isDict_bl, isa_isDict_int, isa_isDict_str, isa_isDict_tup, isa_isDict_lst, isa_isDict_scr, isa_isDict_dct, eq_i, ne_i, eq_s, ne_s, fzn_1, fzn_2, fzn_3, fzn_4, fzn_5, fzn_6, fzn_7, fzn_8, fzn_9, fzn_s, fznL_n, fznL_c, fznK_n, fznK_c, fznF_n, fznF_c, sz0, sz1, sz2, sz3, sz4, sz5, sz6, sz7, sz8, pk1, pk2, pk3, pk4, fzL_n, fzL_c, fz_int, fz_bl, fz_str, fz_non, putD_n, putD_c, at0, at1, at2, at3, ix0, ix1, ix2, Bool.not_true, Bool.not_false, Bool.true_and, Bool.and_true, Bool.false_and, Bool.and_false, Bool.or_true, Bool.true_or, Bool.false_or, Bool.or_false, if_true, if_false, Bool.false_eq_true, decide_true, decide_false, and_self, and_true, true_and, not_true_eq_false, not_false_eq_true, ne_eq, false_and, and_false, eq_self])
local macro_rules | `(tactic| walk_at "env") => `(tactic| simp only [List.map_cons, List.map_nil, List.cons_append, List.nil_append, List.replicate_succ, List.replicate_zero])
local macro_rules | `(tactic| walk_at "ew") => `(tactic| simp -dsimp only [*, b_bo, b_b0, v_bo, v_b0, v_c, v_v, v_mv, v_vk, v_k, v_fk, v_nil, v_cons, v_1, v_2, v_L, v_bB, asB_b, v_bAnd, v_bOr, v_bNot, v_bYes, v_if, v_and, v_or, v_not, v_tup, v_lst, v_fld, asI_i, v_oN, v_oS, optI_i, v_sl, v_rg1, v_rg2, v_lrg, v_trg, chainK_b, v_chain,
  Fl.k_nx, Fl.k_rt, Fl.k_bk, Fl.k_ct, v_seq, v_pass, v_bk, v_ct, v_ret, v_retN, v_expr, v_sif, v_asg, optE_s, v_gN, v_gT, v_gsN, v_gsC, Option.bind_some, v_par, v_par3, v_aug, v_put, v_sfld, v_for, optL_s, v_iSeq, v_iOf, v_iStr, v_lc, v_mList, Rf.back_ok, optP_s, v_callF, v_call, v_aN, v_aE, v_aI, v_fN, v_fE, v_fI, optD_s, Option.map_some,
  v_kN, v_kE, v_kI, v_methE, v_methI, Rf.newB_ok, v_new, fin_rt, fin_nx, getR_s, liftK_s, R.ite_t, R.ite_f, List.getElem?_cons_zero, List.getElem?_cons_succ, List.set_cons_zero, List.set_cons_succ, List.map_cons, List.map_nil, List.cons_append, List.nil_append, List.replicate_succ, List.replicate_zero, k2_s, k3_s, insK_s, strK_s, mlK_s, optF_s, joinO_s, v_gp, v_gq, fldO_s, v_gf, setO_s, v_gs, optR_s, al_n, al_c, pi_t, pi_f, pi_n, wi_n, wi_c,
  add_i, sub_i, mod_i, div_i, pow_60, pow_18, lt_i, le_i, gt_i, ge_i, mul_i, is_n, nis_n, is_i, nis_i, is_t, nis_t, ix_t, ix_l, ix_s, set0, set1, set2, len_t, len_l, len_s, abs_i, int_i, int_b, sl_l, sl_t, fz_l, fz_t, fz_d, fz_i, seq_t, seq_l, zip_l, zip_t, enum_l, tuple_l, tuple_t, list_l, list_t, neg_i, isa_isInt_non, isa_isInt_bl, isa_isInt_int, isa_isInt_str, isa_isInt_tup, isa_isInt_lst, isa_isInt_scr, isa_isInt_dct, isa_isBool_non, isa_isBool_bl, isa_isBool_int, isa_isBool_str, isa_isBool_tup, isa_isBool_lst, isa_isBool_scr, isa_isBool_dct, isa_isStr_non, isa_isStr_bl, isa_isStr_int, isa_isStr_str, isa_isStr_tup, isa_isStr_lst, isa_isStr_scr, isa_isStr_dct, isa_isTuple_non, isa_isTuple_bl, isa_isTuple_int, isa_isTuple_str, isa_isTuple_tup, isa_isTuple_lst, isa_isTuple_scr, isa_isTuple_dct, isa_isList_non, isa_isList_bl, isa_isList_int, isa_isList_str, isa_isList_tup, isa_isList_lst, isa_isList_scr, isa_isList_dct, isa_isDict_non, isa_isDict_bl, isa_isDict_int, isa_isDict_str, isa_isDict_tup, isa_isDict_lst, isa_isDict_scr, isa_isDict_dct, eq_i, ne_i, eq_s, ne_s, fzn_1, fzn_2, fzn_3, fzn_4, fzn_5, fzn_6, fzn_7, fzn_8, fzn_9, fzn_s, fznL_n, fznL_c, fznK_n, fznK_c, fznF_n, fznF_c, sz0, sz1, sz2, sz3, sz4, sz5, sz6, sz7, sz8, pk1, pk2, pk3, pk4, fzL_n, fzL_c, fz_int, fz_bl, fz_str, fz_non, putD_n, putD_c, at0, at1, at2, at3, ix0, ix1, ix2, Bool.not_true, Bool.not_false, Bool.true_and, Bool.and_true, Bool.false_and, Bool.and_false, Bool.or_true, Bool.true_or, Bool.false_or, Bool.or_false, if_true, if_false, Bool.false_eq_true, decide_true, decide_false, and_self, and_true, true_and, not_true_eq_false, not_false_eq_true, ne_eq, false_and, and_false, eq_self, v_parN, po2, po3, po4, se_n, se_c, v_gUL, v_dnew, fi2_i, gdiv_i])
/-! ### along the countdowns, circles at once -/
theorem nodup_le : ∀ (L : Nat) (l : List Nat), l.Nodup → (∀ x ∈ l, x < L) → l.length ≤ L
  | 0, l, _, h => by
    cases l with
    | nil => exact Nat.le_refl _
    | cons a l => exact absurd (h a (List.mem_cons_self ..)) (by omega)
  | L + 1, l, hn, h => by
    have h1 := nodup_le L (l.erase L) (hn.erase L) fun x hx => by
      have h2 := h x (List.mem_of_mem_erase hx)
      have h3 : x ≠ L := fun e => by
        subst e
        exact (List.Nodup.not_mem_erase hn) hx
      omega
    have := List.length_erase (a := L) (l := l)
    split at this <;> omega
def knD (e : Nat × Nat × Nat) : D × D := (.int e.1, .tup [.int e.2.1, .int e.2.2])
theorem look_kn {h : Nat} : ∀ {kn : List (Nat × Nat × Nat)}, lookD (kn.map knD) (.int h) = (kn.find? fun e => decide (e.1 = h)).map fun e => .tup [.int e.2.1, .int e.2.2]
  | [] => rfl
  | r :: rs => by
    have ih := look_kn (h := h) (kn := rs)
    unfold lookD at ih ⊢
    rw [List.map_cons, List.find?_cons, List.find?_cons]
    by_cases g : r.1 = h
    · have e : eqF (knD r).1 (.int (h : Int)) = true := by
        show ((r.1 : Int) == (h : Int)) = true
        rw [g]; exact beq_self_eq_true _
      rw [e, decide_eq_true g]
      rfl
    · have e : eqF (knD r).1 (.int (h : Int)) = false := by
        show ((r.1 : Int) == (h : Int)) = false
        exact beq_eq_false_iff_ne.mpr (by omega)
      rw [e, decide_eq_false g]
      exact ih
abbrev pEnv (w n F q he co tu : D) (kv : List (D × D)) (x8 x9 x10 : Option D) : Env := [some w, some n, some F, some q, some he, some co, some tu, some (.dct true kv), x8, x9, x10]
noncomputable def halfB : MS :=
  (sIf (bB (e2 fLt (eV 6) (eV 1))) (sSeq (sPut (7, none) (eFk (eTup (lCons (eVk 6) (lCons (eVk 5) lNil)))) (eV 4))
  (sSeq (sPar 5 6 (lCons (e2 fAdd (eV 5) (e2 fIx (e2 fIx (eV 0) (eV 4)) (eC (.int 1)))) (lCons (e2 fAdd (eV 6) (eC (.int 1))) lNil)))
  (sAsg (gN 4) (eK (e2 fIx (e2 fIx (eV 0) (eV 4)) (eC (.int 0))))))) sPass)
theorem halfB_go {L n h c t : Nat} {f : MF} {F qD : D} {kn : List (Nat × Nat × Nat)} {x8 x9 x10 : Option D} (ht : t < n) (hh : h < L) (hk : (kn.find? fun e => decide (e.1 = h)) = none) (hl : kn.length ≤ 1000) :
    halfB (pEnv (tabM L f) (.int n) F qD (.int h) (.int c) (.int t) (kn.map knD) x8 x9 x10) = .ok .nx (pEnv (tabM L f) (.int n) F qD (oI (f h).1) (.int (c + (f h).2 : Nat)) (.int (t + 1 : Nat)) ((kn ++ [(h, t, c)]).map knD) x8 x9 x10) := by
  have h1 : (t : Int) < (n : Int) := by omega
  have h2 : fSet (.dct true (kn.map knD)) (.int (h : Int)) (.tup [.int t, .int c]) = some (.dct true ((kn ++ [(h, t, c)]).map knD)) := by
    unfold fSet
    simp only [keyD]
    rw [if_pos (by
      simp only [List.length_map, Bool.and_eq_true, decide_eq_true_eq]
      exact ⟨Nat.lt_of_le_of_lt hl (by decide), rfl⟩)]
    unfold putKD
    rw [look_kn, hk, List.map_append]
    rfl
  have h3 := at_tabM (f := f) hh
  unfold encM at h3
  have h4 : (c : Int) + ((f h).2 : Int) = ((c + (f h).2 : Nat) : Int) := by omega
  have h5 : (t : Int) + 1 = ((t + 1 : Nat) : Int) := by omega
  have zo := fzn_oI (f h).1
  clear ht hh hk hl
  generalize (kn ++ [(h, t, c)]).map knD = K2 at *
  generalize kn.map knD = K1 at *
  unfold halfB pEnv
  walk_at "ew"
theorem halfB_no {n t : Nat} {w F qD he co : D} {kv : List (D × D)} {x8 x9 x10 : Option D} (ht : ¬ t < n) : halfB (pEnv w (.int n) F qD he co (.int t) kv x8 x9 x10) = .ok .nx (pEnv w (.int n) F qD he co (.int t) kv x8 x9 x10) := by
  have h1 : ¬ (t : Int) < (n : Int) := by omega
  clear ht
  unfold halfB pEnv
  walk_at "ew"
theorem pow_circle {f : MF} {q h t0 s c0 m : Nat} (h0 : powF f t0 q = (some h, c0)) (h1 : powF f (t0 + s) q = (some h, c0 + m)) : ∀ j, powF f (t0 + s + j * s) q = (some h, c0 + m + j * m)
  | 0 => by simpa using h1
  | j + 1 => by
    have hs : powF f s h = (some h, m) := by
      rw [powF_add, oF_s (k := h) (by rw [h0]), h0] at h1
      have e1 := congrArg Prod.fst h1
      have e2 := congrArg Prod.snd h1
      simp only at e1 e2
      refine Prod.ext e1 ?_
      simp only
      omega
    have ih := pow_circle h0 h1 j
    rw [Nat.succ_mul, ← Nat.add_assoc, powF_add, oF_s (k := h) (by rw [ih]), ih, hs, Nat.succ_mul]
    simp [Nat.add_assoc]
theorem pow_none {f : MF} {q t c : Nat} (h : powF f t q = (none, c)) {n : Nat} (hn : t ≤ n) : powF f n q = (none, c) := by
  rw [show n = t + (n - t) by omega, powF_add, oF_n (by rw [h]), h]
theorem pow_step {f : MF} {q t h c : Nat} (h0 : powF f t q = (some h, c)) : powF f (t + 1) q = ((f h).1, c + (f h).2) := by
  rw [powF_succ, oF_s (k := h) (by rw [h0]), h0]
theorem find_none {kn : List (Nat × Nat × Nat)} {h : Nat} (e : (kn.find? fun e => decide (e.1 = h)) = none) : ∀ x ∈ kn, x.1 ≠ h := fun x hx => by
  have := List.find?_eq_none.mp e x hx
  simpa using this
structure KnOk (f : MF) (q L t : Nat) (kn : List (Nat × Nat × Nat)) : Prop where
  nd : (kn.map (·.1)).Nodup
  at_ : ∀ e ∈ kn, e.2.1 < t ∧ powF f e.2.1 q = (some e.1, e.2.2) ∧ e.1 < L
theorem KnOk.len {f : MF} {q L t : Nat} {kn : List (Nat × Nat × Nat)} (h : KnOk f q L t kn) : kn.length ≤ L := by
  have := nodup_le L (kn.map (·.1)) h.nd fun x hx => by
    obtain ⟨e, he, rfl⟩ := List.mem_map.mp hx
    exact (h.at_ e he).2.2
  simpa using this
theorem KnOk.add {f : MF} {q L t h c : Nat} {kn : List (Nat × Nat × Nat)} (k : KnOk f q L t kn) (e : (kn.find? fun e => decide (e.1 = h)) = none) (h0 : powF f t q = (some h, c)) (hh : h < L) : KnOk f q L (t + 1) (kn ++ [(h, t, c)]) := by
  refine ⟨?_, fun x hx => ?_⟩
  · rw [List.map_append, List.nodup_append]
    refine ⟨k.nd, by simp, fun a ha b hb => ?_⟩
    obtain ⟨x, hx, rfl⟩ := List.mem_map.mp ha
    simp only [List.map_cons, List.map_nil, List.mem_singleton] at hb
    subst hb
    exact find_none e x hx
  · rcases List.mem_append.mp hx with hx | hx
    · have := k.at_ x hx
      exact ⟨by omega, this.2⟩
    · rw [List.mem_singleton.mp hx]
      exact ⟨by simp, h0, hh⟩
theorem powered_while {L n q M : Nat} {f : MF} {F : D} (hL : L ≤ 1000) (hf : Good L f) (hM : ∀ q < L, (f q).2 ≤ M) (hq : q < L) (hn : n ≤ 10 ^ 30) (hMM : M ≤ 1000) {x8 x9 x10 : Option D} :
    ∃ t kv y8 y9 y10, lp_l_powered_1 (pEnv (tabM L f) (.int n) F (.int q) (.int q) (.int 0) (.int 0) [] x8 x9 x10) = .ok .nx (pEnv (tabM L f) (.int n) F (.int q) (oI (powF f n q).1) (.int (powF f n q).2) t kv y8 y9 y10) := by
  obtain ⟨e', h1, t, kv, y8, y9, y10, h2⟩ := while_inv (c := bAnd (bB (e2 fLt (eV 6) (eV 1))) (bB (e2 fNis (eV 4) (eC .non)))) (m := lb_l_powered_1)
    (fun env => ∃ (t : Nat) (kn : List (Nat × Nat × Nat)) (y8 y9 y10 : Option D), env = pEnv (tabM L f) (.int n) F (.int q) (oI (powF f t q).1) (.int (powF f t q).2) (.int t) (kn.map knD) y8 y9 y10 ∧ t ≤ n ∧ KnOk f q L t kn)
    (fun env => ∃ t kv y8 y9 y10, env = pEnv (tabM L f) (.int n) F (.int q) (oI (powF f n q).1) (.int (powF f n q).2) t kv y8 y9 y10) (fun env : Env => match env[6]? with | some (some (D.int i)) => n - i.toNat | _ => 0) (by
      rintro _ ⟨t, kn, y8, y9, y10, rfl, g1, g2⟩
      by_cases ht : t < n
      · have ht' : (t : Int) < (n : Int) := by omega
        cases e : (powF f t q).1 with
        | none =>
          right
          have hp : powF f t q = (none, (powF f t q).2) := Prod.ext e rfl
          refine ⟨_, ?_, .int t, kn.map knD, y8, y9, y10, rfl⟩
          have hp2 := pow_none hp (n := n) (by omega)
          rw [hp2]
          clear hp hp2 g1 g2 e hM hf hL hn hMM
          unfold pEnv oI
          simp only
          walk_at "ew"
        | some h =>
          left
          have hp : powF f t q = (some h, (powF f t q).2) := Prod.ext e rfl
          have hh : h < L := good_p hf t q hq h e
          generalize hc : (powF f t q).2 = c at hp ⊢
          refine ⟨pEnv (tabM L f) (.int n) F (.int q) (.int h) (.int c) (.int t) (kn.map knD) y8 y9 y10, ?_⟩
          have htest : bAnd (bB (e2 fLt (eV 6) (eV 1))) (bB (e2 fNis (eV 4) (eC .non))) (pEnv (tabM L f) (.int n) F (.int q) (oI (some h)) (.int c) (.int t) (kn.map knD) y8 y9 y10) = .ok true (pEnv (tabM L f) (.int n) F (.int q) (.int h) (.int c) (.int t) (kn.map knD) y8 y9 y10) := by
            clear hp g1 g2 e hM hf hL hn hMM hc
            unfold pEnv oI
            walk_at "ew"
          have hin : fIn (.int (h : Int)) (.dct true (kn.map knD)) = some (.bl (lookD (kn.map knD) (.int h)).isSome) := rfl
          have hix : fIx (.dct true (kn.map knD)) (.int (h : Int)) = lookD (kn.map knD) (.int h) := rfl
          rw [look_kn] at hin hix
          cases ek : kn.find? fun e => decide (e.1 = h) with
          | none =>
            rw [ek] at hin hix
            simp only [Option.map_none, Option.isSome_none] at hin
            have hb := halfB_go (f := f) (F := F) (qD := .int q) (c := c) (x8 := y8) (x9 := y9) (x10 := y10) ht hh ek (Nat.le_trans g2.len hL)
            have hs := pow_step hp
            refine ⟨_, htest, .inl (seq_nx (e := pEnv (tabM L f) (.int n) F (.int q) (.int h) (.int c) (.int t) (kn.map knD) y8 y9 y10) ?_ hb), ⟨t + 1, kn ++ [(h, t, c)], y8, y9, y10, ?_, by omega, g2.add ek hp hh⟩, ?_⟩
            · clear hp g1 g2 e hM hf hL hn hMM hc hb hs htest hix ek
              unfold pEnv
              walk_at "ew"
            · rw [hs]
            · show n - (((t + 1 : Nat) : Int)).toNat < n - ((t : Int)).toNat
              omega
          | some en =>
            obtain ⟨h', t0, c0⟩ := en
            have hm := List.mem_of_find?_eq_some ek
            have hh' : h' = h := by have := List.find?_some ek; simpa using this
            subst hh'
            obtain ⟨a1, a2, a3⟩ := g2.at_ _ hm
            simp only at a1 a2 a3
            rw [ek] at hin hix
            simp only [Option.map_some, Option.isSome_some] at hin hix
            obtain ⟨s, hs⟩ : ∃ s, t = t0 + s := ⟨t - t0, by omega⟩
            have hcc : c0 ≤ c := by
              have := powF_add f t0 s
              rw [← hs] at this
              have := congrFun this q
              rw [hp, oF_s (k := h') (by rw [a2]), a2] at this
              have := congrArg Prod.snd this
              simp only at this
              omega
            obtain ⟨m, hmm⟩ : ∃ m, c = c0 + m := ⟨c - c0, by omega⟩
            have hcir := pow_circle a2 (s := s) (m := m) (by rw [← hs, ← hmm]; exact hp)
            obtain ⟨j, hj⟩ : ∃ j, j = (n - t) / s := ⟨_, rfl⟩
            have hs0 : 0 < s := by omega
            have hjs : j * s ≤ n - t := by rw [hj]; exact Nat.div_mul_le_self _ _
            have hP := hcir j
            rw [← hs, ← hmm] at hP
            have i1 : (t : Int) - (t0 : Int) = (s : Int) := by omega
            have i2 : (c : Int) - (c0 : Int) = (m : Int) := by omega
            have i3 : ((n : Int) - (t : Int)) / (s : Int) = (j : Int) := by
              rw [hj, show (n : Int) - (t : Int) = ((n - t : Nat) : Int) by omega]
              exact (Int.natCast_ediv _ _).symm
            have i4 : (t : Int) + (j : Int) * (s : Int) = ((t + j * s : Nat) : Int) := by rw [Int.natCast_add, Int.natCast_mul]
            have i5 : (c : Int) + (j : Int) * (m : Int) = ((c + j * m : Nat) : Int) := by rw [Int.natCast_add, Int.natCast_mul]
            have jn : j ≤ n := by
              have : j * 1 ≤ j * s := Nat.mul_le_mul_left j hs0
              omega
            have big : ∀ a : Nat, a ≤ 10 ^ 30 → (a : Int) < 2 ^ 1000 := fun a ha => lt_k (k := 10 ^ 31) (by omega)
            have cb : c ≤ n * 1000 := by
              have h1 := pow_cnt hf hM t q hq
              rw [hc] at h1
              have h2 : t * M ≤ n * 1000 := Nat.mul_le_mul g1 hMM
              omega
            have i6 : mulOk (j : Int) (s : Int) = true := mulOk_s (by omega) (big j (by omega)) (by omega) (big s (by omega))
            have i7 : mulOk (j : Int) (m : Int) = true := mulOk_s (by omega) (big j (by omega)) (by omega) (lt_k (k := 10 ^ 34) (by omega))
            have i8 : (0 : Int) < (s : Int) := by omega
            have i9 : (s : Int).natAbs.log2 < 9000 := by
              have := log2_lt (abs_lt (a := (s : Int)) (k := 1000) (by omega) (big s (by omega))) (by decide)
              omega
            have A : ∀ Bx : MS, sSeq (sIf (bB (e2 fIn (eV 4) (eV 7))) (sSeq (sPar 8 9 (lCons (e2 fSub (eV 6) (e2 fIx (e2 fIx (eV 7) (eV 4)) (eC (.int 0)))) (lCons (e2 fSub (eV 5) (e2 fIx (e2 fIx (eV 7) (eV 4)) (eC (.int 1)))) lNil)))
                (sSeq (sAsg (gN 10) (e2 fDiv (e2 fSub (eV 1) (eV 6)) (eV 8)))
                (sSeq (sPar 6 5 (lCons (e2 fAdd (eV 6) (e2 fMul (eV 10) (eV 8))) (lCons (e2 fAdd (eV 5) (e2 fMul (eV 10) (eV 9))) lNil)))
                (sAsg (gN 7) eDNew)))) sPass) Bx (pEnv (tabM L f) (.int n) F (.int q) (.int h') (.int c) (.int t) (kn.map knD) y8 y9 y10) =
                Bx (pEnv (tabM L f) (.int n) F (.int q) (.int h') (.int (c + j * m : Nat)) (.int (t + j * s : Nat)) [] (some (.int s)) (some (.int m)) (some (.int j))) := by
              intro Bx
              refine seq_nx ?_ rfl
              clear hP hcir hjs hj hs hmm hcc a1 a2 a3 hm ek htest hp hc e g1 g2 hh hM hf hL hn hMM hs0 jn big cb ht ht'
              unfold pEnv
              walk_at "ew"
            by_cases hlt : t + j * s < n
            · have hb := halfB_go (L := L) (f := f) (F := F) (qD := .int q) (h := h') (c := c + j * m) (kn := []) (x8 := some (.int s)) (x9 := some (.int m)) (x10 := some (.int j)) hlt hh rfl (by simp)
              have hst := pow_step hP
              refine ⟨_, htest, .inl ((A halfB).trans hb), ⟨t + j * s + 1, [] ++ [(h', t + j * s, c + j * m)], some (.int (s : Nat)), some (.int (m : Nat)), some (.int (j : Nat)), ?_, by omega, KnOk.add (kn := []) ⟨by simp, by simp⟩ rfl hP hh⟩, ?_⟩
              · rw [hst]
              · show n - (((t + j * s + 1 : Nat) : Int)).toNat < n - ((t : Int)).toNat
                omega
            · have hb := halfB_no (n := n) (t := t + j * s) (w := tabM L f) (F := F) (qD := .int q) (he := .int h') (co := .int (c + j * m : Nat)) (kv := []) (x8 := some (.int s)) (x9 := some (.int m)) (x10 := some (.int j)) hlt
              refine ⟨_, htest, .inl ((A halfB).trans hb), ⟨t + j * s, [], some (.int (s : Nat)), some (.int (m : Nat)), some (.int (j : Nat)), ?_, by omega, ⟨by simp, by simp⟩⟩, ?_⟩
              · rw [hP]
                rfl
              · show n - (((t + j * s : Nat) : Int)).toNat < n - ((t : Int)).toNat
                omega
      · right
        have htn : t = n := by omega
        subst htn
        refine ⟨_, ?_, .int t, kn.map knD, y8, y9, y10, rfl⟩
        have h1 : ¬ (t : Int) < (t : Int) := by omega
        clear g1 g2 hM hf hL hn hMM ht hq
        unfold pEnv
        walk_at "ew") (env := pEnv (tabM L f) (.int n) F (.int q) (.int q) (.int 0) (.int 0) [] x8 x9 x10) ⟨0, [], x8, x9, x10, rfl, Nat.zero_le _, ⟨by simp, by simp⟩⟩
  subst h2
  exact ⟨t, kv, y8, y9, y10, h1⟩
end Mi

set_option maxHeartbeats 4000000
set_option exponentiation.threshold 100000
namespace Mi
open PySem PySem.Spec PyProof.Rows L2 RZ Ov PpSet
local macro_rules | `(tactic| walk_at "ev") => `(tactic| simp -dsimp only [*, b_bo, b_b0, v_bo, v_b0, v_c, v_v, v_mv, v_vk, v_k, v_fk, v_nil, v_cons, v_1, v_2, v_L, v_bB, asB_b, v_bAnd, v_bOr, v_bNot, v_bYes, v_if, v_and, v_or, v_not, v_tup, v_lst, v_fld, asI_i, v_oN, v_oS, optI_i, v_sl, v_rg1, v_rg2, v_lrg, v_trg, chainK_b, v_chain,
  Fl.k_nx, Fl.k_rt, Fl.k_bk, Fl.k_ct, v_seq, v_pass, v_bk, v_ct, v_ret, v_retN, v_expr, v_sif, v_asg, optE_s, v_gN, v_gT, v_gsN, v_gsC, Option.bind_some, v_par, v_par3, v_aug, v_put, v_sfld, v_for, optL_s, v_iSeq, v_iOf, v_iStr, v_lc, v_mList, Rf.back_ok, optP_s, v_callF, v_call, v_aN, v_aE, v_aI, v_fN, v_fE, v_fI, optD_s, Option.map_some,
  v_kN, v_kE, v_kI, v_methE, v_methI, Rf.newB_ok, v_new, fin_rt, fin_nx, getR_s, liftK_s, R.ite_t, R.ite_f, List.getElem?_cons_zero, List.getElem?_cons_succ, List.set_cons_zero, List.set_cons_succ, List.map_cons, List.map_nil, List.cons_append, List.nil_append, List.replicate_succ, List.replicate_zero, k2_s, k3_s, insK_s, strK_s, mlK_s, optF_s, joinO_s, v_gp, v_gq, fldO_s, v_gf, setO_s, v_gs, optR_s, al_n, al_c, pi_t, pi_f, pi_n, wi_n, wi_c,
  add_i, sub_i, mod_i, div_i, pow_60, pow_18, lt_i, le_i, gt_i, ge_i, mul_i, is_n, nis_n, is_i, nis_i, is_t, nis_t, ix_t, ix_l, ix_s, set0, set1, set2, len_t, len_l, len_s, abs_i, int_i, int_b, sl_l, sl_t, fz_l, fz_t, fz_d, fz_i, seq_t, seq_l, zip_l, zip_t, enum_l, tuple_l, tuple_t, list_l, list_t, neg_i, isa_isInt_non, isa_isInt_bl, isa_isInt_int, isa_isInt_str, isa_isInt_tup, isa_isInt_lst, isa_isInt_scr, isa_isInt_dct, isa_isBool_non, isa_isBool_bl, isa_isBool_int, isa_isBool_str, isa_isBool_tup, isa_isBool_lst, isa_isBool_scr, isa_isBool_dct, isa_isStr_non, isa_isStr_bl, isa_isStr_int, isa_isStr_str, isa_isStr_tup, isa_isStr_lst, isa_isStr_scr, isa_isStr_dct, isa_isTuple_non, isa_isTuple_bl, isa_isTuple_int, isa_isTuple_str, isa_isTuple_tup, isa_isTuple_lst, isa_isTuple_scr, isa_isTuple_dct, isa_isList_non, isa_isList_bl, isa_isList_int, isa_isList_str, isa_isList_tup, isa_isList_lst, isa_isList_scr, isa_isList_dct, isa_isDict_non, isa_isDict_bl, isa_isDict_int, isa_isDict_str, isa_isDict_tup, isa_isDict_lst, isa_isDict_scr, isa_isDict_dct, eq_i, ne_i, eq_s, ne_s, fzn_1, fzn_2, fzn_3, fzn_4, fzn_5, fzn_6, fzn_7, fzn_8, fzn_9, fzn_s, fznL_n, fznL_c, fznK_n, fznK_c, fznF_n, fznF_c, sz0, sz1, sz2, sz3, sz4, sz5, sz6, sz7, sz8, pk1, pk2, pk3, pk4, fzL_n, fzL_c, fz_int, fz_bl, fz_str, fz_non, putD_n, putD_c, at0, at1, at2, at3, ix0, ix1, ix2, Bool.not_true, Bool.not_false, Bool.true_and, Bool.and_true, Bool.false_and, Bool.and_false, Bool.or_true, Bool.true_or, Bool.false_or, Bool.or_false, if_true, if_false, Bool.false_eq_true, decide_true, decide_false, and_self, and_true, true_and, not_true_eq_false, not_false_eq_true, ne_eq, false_and, and_false, eq_self])
local macro_rules | `(tactic| walk_at "env") => `(tactic| simp only [List.map_cons, List.map_nil, List.cons_append, List.nil_append, List.replicate_succ, List.replicate_zero])
local macro_rules | `(tactic| walk_at "ew") => `(tactic| simp -dsimp only [*, b_bo, b_b0, v_bo, v_b0, v_c, v_v, v_mv, v_vk, v_k, v_fk, v_nil, v_cons, v_1, v_2, v_L, v_bB, asB_b, v_bAnd, v_bOr, v_bNot, v_bYes, v_if, v_and, v_or, v_not, v_tup, v_lst, v_fld, asI_i, v_oN, v_oS, optI_i, v_sl, v_rg1, v_rg2, v_lrg, v_trg, chainK_b, v_chain,
  Fl.k_nx, Fl.k_rt, Fl.k_bk, Fl.k_ct, v_seq, v_pass, v_bk, v_ct, v_ret, v_retN, v_expr, v_sif, v_asg, optE_s, v_gN, v_gT, v_gsN, v_gsC, Option.bind_some, v_par, v_par3, v_aug, v_put, v_sfld, v_for, optL_s, v_iSeq, v_iOf, v_iStr, v_lc, v_mList, Rf.back_ok, optP_s, v_callF, v_call, v_aN, v_aE, v_aI, v_fN, v_fE, v_fI, optD_s, Option.map_some,
  v_kN, v_kE, v_kI, v_methE, v_methI, Rf.newB_ok, v_new, fin_rt, fin_nx, getR_s, liftK_s, R.ite_t, R.ite_f, List.getElem?_cons_zero, List.getElem?_cons_succ, List.set_cons_zero, List.set_cons_succ, List.map_cons, List.map_nil, List.cons_append, List.nil_append, List.replicate_succ, List.replicate_zero, k2_s, k3_s, insK_s, strK_s, mlK_s, optF_s, joinO_s, v_gp, v_gq, fldO_s, v_gf, setO_s, v_gs, optR_s, al_n, al_c, pi_t, pi_f, pi_n, wi_n, wi_c,
  add_i, sub_i, mod_i, div_i, pow_60, pow_18, lt_i, le_i, gt_i, ge_i, mul_i, is_n, nis_n, is_i, nis_i, is_t, nis_t, ix_t, ix_l, ix_s, set0, set1, set2, len_t, len_l, len_s, abs_i, int_i, int_b, sl_l, sl_t, fz_l, fz_t, fz_d, fz_i, seq_t, seq_l, zip_l, zip_t, enum_l, tuple_l, tuple_t, list_l, list_t, neg_i, isa_isInt_non, isa_isInt_bl, isa_isInt_int, isa_isInt_str, isa_isInt_tup, isa_isInt_lst, isa_isInt_scr, isa_isInt_dct, isa_isBool_non, isa_isBool_bl, isa_isBool_int, isa_isBool_str, isa_isBool_tup, isa_isBool_lst, isa_isBool_scr, isa_isBool_dct, isa_isStr_non, isa_isStr_bl, isa_isStr_int, isa_isStr_str, isa_isStr_tup, isa_isStr_lst, isa_isStr_scr, isa_isStr_dct, isa_isTuple_non, isa_isTuple_bl, isa_isTuple_int, isa_isTuple_str, isa_isTuple_tup, isa_isTuple_lst, isa_isTuple_scr, isa_isTuple_dct, isa_isList_non, isa_isList_bl, isa_isList_int, isa_isList_str, isa_isList_tup, isa_isList_lst, isa_isList_scr, isa_isList_dct, isa_isDict_non, isa_isDict_bl, isa_isDict_int, isa_isDict_str, isa_isDict_tup, isa_isDict_lst, isa_isDict_scr, isa_isDict_dct, eq_i, ne_i, eq_s, ne_s, fzn_1, fzn_2, fzn_3, fzn_4, fzn_5, fzn_6, fzn_7, fzn_8, fzn_9, fzn_s, fznL_n, fznL_c, fznK_n, fznK_c, fznF_n, fznF_c, sz0, sz1, sz2, sz3, sz4, sz5, sz6, sz7, sz8, pk1, pk2, pk3, pk4, fzL_n, fzL_c, fz_int, fz_bl, fz_str, fz_non, putD_n, putD_c, at0, at1, at2, at3, ix0, ix1, ix2, Bool.not_true, Bool.not_false, Bool.true_and, Bool.and_true, Bool.false_and, Bool.and_false, Bool.or_true, Bool.true_or, Bool.false_or, Bool.or_false, if_true, if_false, Bool.false_eq_true, decide_true, decide_false, and_self, and_true, true_and, not_true_eq_false, not_false_eq_true, ne_eq, false_and, and_false, eq_self, v_parN, po2, po3, po4, se_n, se_c, v_gUL, v_dnew, fi2_i, gdiv_i])
theorem powered_spec {L n M : Nat} {f : MF} (hL : L ≤ 1000) (hf : Good L f) (hM : ∀ q < L, (f q).2 ≤ M) (hn : n ≤ 10 ^ 30) (hMM : M ≤ 1000) : m_l_powered [tabM L f, .int n] = .ok (tabM L (powF f n)) [] := by
  have z := @fzn_tabM
  have hl := @len_tabM
  obtain ⟨e', h1, x3, x4, x5, x6, x7, x8, x9, x10, h2⟩ := for_inv (g := gN 3) (m := lb_l_powered_2) ((List.range L).map fun k : Nat => .int (k : Int)) (fun i env => ∃ x3 x4 x5 x6 x7 x8 x9 x10, env = [some (tabM L f), some (.int n), some (.lst true ((List.range i).map fun q => encM (powF f n q))), x3, x4, x5, x6, x7, x8, x9, x10]) (by
    rintro i d _ hd ⟨x3, x4, x5, x6, x7, x8, x9, x10, rfl⟩
    have hi : i < L := by
      rcases Nat.lt_or_ge i L with g | g
      · exact g
      · rw [List.getElem?_eq_none (by simpa using g)] at hd; cases hd
    rw [List.getElem?_map, List.getElem?_range hi] at hd
    cases hd
    have ha := app_range (f := powF f n) hi hL
    generalize (List.range i).map (fun q => encM (powF f n q)) = Fi at *
    generalize (List.range (i + 1)).map (fun q => encM (powF f n q)) = Fj at *
    obtain ⟨t, kv, y8, y9, y10, hw⟩ := powered_while (F := .lst true Fi) hL hf hM hi hn hMM (x8 := x8) (x9 := x9) (x10 := x10)
    refine ⟨_, [some (tabM L f), some (.int n), some (.lst true Fj), some (.int i), some (oI (powF f n i).1), some (.int (powF f n i).2), some t, some (.dct true kv), y8, y9, y10], rfl, .inl ?_, _, _, _, _, _, _, _, _, rfl⟩
    have zo := fzn_oI (powF f n i).1
    unfold encM at ha
    unfold lb_l_powered_2
    refine seq_nx (e := pEnv (tabM L f) (.int n) (.lst true Fi) (.int i) (.int i) (.int 0) (.int 0) [] x8 x9 x10) ?_ (seq_nx hw ?_)
    · clear hw hf hM hL hn hMM hi ha
      unfold pEnv
      walk_at "ew"
    · clear hw hf hM hL hn hMM hi
      unfold pEnv
      walk_at "ew") (env := [some (tabM L f), some (.int n), some (.lst true []), none, none, none, none, none, none, none, none]) ⟨none, none, none, none, none, none, none, none, rfl⟩
  simp only [List.length_map, List.length_range] at h2
  subst h2
  have h3 : lp_l_powered_2 [some (tabM L f), some (.int n), some (.lst true []), none, none, none, none, none, none, none, none] = .ok .nx [some (tabM L f), some (.int n), some (.lst true ((List.range L).map fun q => encM (powF f n q))), x3, x4, x5, x6, x7, x8, x9, x10] := by
    unfold lp_l_powered_2
    rw [← h1]
    have := rng1_n (j := L) (by omega)
    clear h1 hf hL hn hMM hM
    walk_at "ew"
  have z2 : fznL ((List.range L).map fun q => encM (powF f n q)) = true := fznL_map fun q _ => fzn_encM _
  have et : tabM L (powF f n) = .tup ((List.range L).map fun q => encM (powF f n q)) := rfl
  clear h1 hf hL hn hMM hM
  unfold m_l_powered b_l_powered
  rw [v_fn, et]
  walk_at "ew"
/-! ### repr of maps -/
def pyM (L : Nat) (f : MF) : PyData := .tuple ((List.range L).map fun q => encP (f q))
structure Small (L : Nat) (f : MF) : Prop where
  s : ∀ q < L, (∀ o, (f q).1 = some o → o < 2 ^ 500) ∧ (f q).2 < 2 ^ 500
theorem py_tabM {L : Nat} {f : MF} : toPy (tabM L f) = some (pyM L f) := by
  unfold tabM pyM
  rw [toPy, toPyL_map fun q _ => enc_py (f q)]
  rfl
theorem plain_pyM {L : Nat} {f : MF} : plainD 2 (pyM L f) = true := by
  show plainA 1 _ = true
  refine plainA_map fun q _ => ?_
  show plainA 0 [oD (f q).1, .int (f q).2] = true
  simp [plainA, plain_int, plain_oD]
theorem show_pyM {L : Nat} {f : MF} (h : Small L f) : (pyM L f).showable = true := by
  show PyData.showableAll _ = true
  refine showA_map fun q hq => ?_
  obtain ⟨h1, h2⟩ := h.s q (by simpa using hq)
  show PyData.showableAll [oD (f q).1, .int (f q).2] = true
  have h3 : (oD (f q).1).showable = true := show_oD fun n hn => Nat.lt_trans (h1 n hn) (by decide)
  have h4 : (PyData.int ((f q).2 : Nat)).showable = true := show_int (Nat.lt_trans (by simpa using h2) (by decide : 2 ^ 500 < 2 ^ 1000))
  simp [PyData.showableAll, h3, h4]
theorem wt_pyM {L : Nat} {f : MF} : wt (pyM L f) ≤ 3 * L + 1 := by
  have : wtA ((List.range L).map fun q => encP (f q)) ≤ 3 * (List.range L).length := wtA_map fun q _ => by
    have := wt_oD (o := (f q).1)
    simp only [encP, wt, wtA]
    omega
  rw [List.length_range] at this
  simp only [pyM, wt]
  omega
theorem repr_tab {L : Nat} {f : MF} (hL : L ≤ 1000) (h : Small L f) : ∃ x, fRepr [tabM L f] = some (.str x) :=
  ⟨_, repr_ok py_tabM plain_pyM (by decide) (show_pyM h) (by have := wt_pyM (L := L) (f := f); omega)⟩
theorem repr_two {L : Nat} {f : MF} (hL : L ≤ 1000) (h : Small L f) : ∃ x, fRepr [.lst true [tabM L f, tabM L f]] = some (.str x) := by
  refine ⟨_, repr_ok (p := .list [pyM L f, pyM L f]) (n := 3) ?_ ?_ (by decide) ?_ ?_⟩
  · simp [toPy, toPyL, py_tabM]
  · show plainA 2 [pyM L f, pyM L f] = true
    simp [plainA, plain_pyM]
  · show PyData.showableAll [pyM L f, pyM L f] = true
    simp [PyData.showableAll, show_pyM h]
  · have := wt_pyM (L := L) (f := f)
    simp only [wt, wtA]
    omega
theorem small_map {c L : Nat} {rs : List Row} {code : List Nat} (h : TabOk c L rs) (hL : L ≤ 12) (hc : code.length ≤ 1000) : Small (lng rs) (mapF rs code) := by
  have hl := h.lng
  refine ⟨fun q hq => ⟨fun o ho => ?_, ?_⟩⟩
  · have := good_map (code := code) h q hq o ho
    exact Nat.lt_trans (by omega : o < 2 ^ 10) (by decide)
  · have := (mapF_le (fun b => lenAt_le h b) (code := code) (k := q)).2
    exact Nat.lt_of_le_of_lt (by omega : (mapF rs code q).2 ≤ 1000) (by decide)
theorem small_pow {L n : Nat} {f : MF} (hL : L ≤ 1000) (hf : Good L f) (hM : ∀ q < L, (f q).2 ≤ 1000) (hn : n ≤ 10 ^ 30) : Small L (powF f n) := by
  refine ⟨fun q hq => ⟨fun o ho => ?_, ?_⟩⟩
  · have := good_p hf n q hq o ho
    exact Nat.lt_trans (by omega : o < 2 ^ 11) (by decide)
  · have h1 := pow_cnt hf hM n q hq
    have h2 : n * 1000 ≤ 10 ^ 30 * 1000 := Nat.mul_le_mul_right _ hn
    exact Nat.lt_of_le_of_lt (Nat.le_trans h1 h2) (by decide +kernel)
theorem add_t {a b : List D} : fAdd (.tup a) (.tup b) = if a.length + b.length ≤ sizeLine then some (.tup (a ++ b)) else none := nrfl rfl
def cd (code : List Nat) : D := .tup (code.map fun x : Nat => .int x)
theorem add_cd {a b : List Nat} (h : a.length + b.length ≤ 1000) : fAdd (cd a) (cd b) = some (cd (a ++ b)) := by
  unfold cd
  rw [add_t, if_pos (by simp; exact Nat.le_trans h (by decide)), List.map_append]
theorem mul_cd {a : List Nat} {k : Nat} (h : a.length ≤ 1000) (hk : k ≤ 1000) : fMul2 (cd a) (.int (k : Int)) = some (cd (List.replicate k a).flatten) := by
  unfold cd
  show (if _ then _ else _) = _
  rw [if_pos ⟨by omega, by omega, by simpa using h⟩, Int.toNat_natCast]
  refine congrArg (fun l => some (D.tup l)) ?_
  rw [List.map_flatten, List.map_replicate]
theorem fzn_cd {a : List Nat} : fzn (cd a) = true := by
  unfold cd
  rw [fzn_5]
  exact fznL_code
/-! ### the law -/
theorem codes_spec {N c L : Nat} {rs : List Row} {b : D} (ht : TabOk c L rs) (hb : Bx N b) (hN : N ≤ 2 ^ 55) :
    ∃ (c1 c2 c3 : List Nat) (b' : D), cp_l_right_k25_2 [some b, some (tabD c rs), none, none, none, none, none, none, none, none, none, none, none] = .ok (.lst true [cd c1, cd c2, cd c3]) [some b', some (tabD c rs), none, none, none, none, none, none, none, none, none, none, none] ∧
      c1.length ≤ 20 ∧ c2.length ≤ 20 ∧ c3.length ≤ 20 ∧ Bx (N + 200) b' := by
  have ft := fzn_tab (c := c) (rs := rs)
  obtain ⟨r, e', k1, b', codes, k2, k3, k4, k5, k6⟩ := eLc_inv (it := iOf rng1 (lCons (eC (.int 3)) lNil)) (g := gN 11) (m := ce_l_right_k25_2) (ws := [11]) (env := [some b, some (tabD c rs), none, none, none, none, none, none, none, none, none, none, none]) (e := [some b, some (tabD c rs), none, none, none, none, none, none, none, none, none, none, none])
    (ds := (List.range 3).map fun k : Nat => .int (k : Int)) (by
      have := rng1_n (j := 3) (by omega)
      have e : ((3 : Nat) : Int) = 3 := rfl
      rw [e] at this
      clear ht hb hN
      walk_at "ew") (by simp; decide)
    (fun i acc env => ∃ (b' : D) (codes : List (List Nat)), env = [some b', some (tabD c rs), none, none, none, none, none, none, none, none, none, none, none] ∧ acc = codes.map cd ∧ codes.length = i ∧ (∀ x ∈ codes, x.length ≤ 20) ∧ Bx (N + 60 * i) b')
    ⟨b, [], rfl, rfl, rfl, by simp, hb⟩ (by
      rintro i d acc _ hd ⟨b', codes, rfl, rfl, q1, q2, q3⟩
      have hi : i < 3 := by
        rcases Nat.lt_or_ge i 3 with g | g
        · exact g
        · rw [List.getElem?_eq_none (by simpa using g)] at hd; cases hd
      obtain ⟨n, b1, t1, p1, p2, hb1⟩ := take_spec (m := 21) q3 (by omega) (by omega) (by omega)
      obtain ⟨n, rfl⟩ := Int.eq_ofNat_of_zero_le p1
      obtain ⟨code, b2, w1, w2, w3, w4⟩ := bytes_spec (n := n) ht hb1 (by omega) (by omega)
      refine ⟨_, [some b2, some (tabD c rs), none, none, none, none, none, none, none, none, none, some d, none], cd code, rfl, ?_, b2, codes ++ [code], rfl, by simp, by simp [q1], ?_, w4.mono (by omega)⟩
      · clear p1 p2 w2 w3 w4 hb1 q1 q2 q3 ht hb hN hd hi
        unfold ce_l_right_k25_2 cd
        walk_at "ew"
      · intro x hx
        rcases List.mem_append.mp hx with hx | hx
        · exact q2 x hx
        · rw [List.mem_singleton.mp hx]; omega)
  simp only [List.length_map, List.length_range] at k4 k6
  subst k2 k3
  match codes, k4, k5 with
  | [c1, c2, c3], _, k5 => exact ⟨c1, c2, c3, b', k1, k5 c1 (by simp), k5 c2 (by simp), k5 c3 (by simp), k6.mono (by omega)⟩
theorem maps_spec {c L : Nat} {rs : List Row} {b : D} {c1 c2 c3 : List Nat} (ht : TabOk c L rs) (hL : L ≤ 12) (h1 : c1.length ≤ 20) (h2 : c2.length ≤ 20) (h3 : c3.length ≤ 20) :
    cp_l_right_k25_1 [some b, some (tabD c rs), some (machD true c rs), some (.lst true [cd c1, cd c2, cd c3]), none, none, none, none, none, none, none, none, none] =
      .ok (.lst true [tabM (lng rs) (mapF rs c1), tabM (lng rs) (mapF rs c2), tabM (lng rs) (mapF rs c3)]) [some b, some (tabD c rs), some (machD false c rs), some (.lst false [cd c1, cd c2, cd c3]), none, none, none, none, none, none, none, none, none] := by
  have hz := fzn_mach (c := c) (rs := rs)
  have hz' := fzn_mach' (c := c) (rs := rs)
  have hzz := fz_mach (c := c) (rs := rs)
  have zc := @fzn_cd
  have fc : ∀ a : List Nat, fz (cd a) = cd a := fun a => fz_same _ fzn_cd
  have m1 : m_code_map [machD false c rs, cd c1] = .ok (tabM (lng rs) (mapF rs c1)) [] := code_map_spec ht hL (by omega)
  have m2 : m_code_map [machD false c rs, cd c2] = .ok (tabM (lng rs) (mapF rs c2)) [] := code_map_spec ht hL (by omega)
  have m3 : m_code_map [machD false c rs, cd c3] = .ok (tabM (lng rs) (mapF rs c3)) [] := code_map_spec ht hL (by omega)
  have l0 : ([] : List D).length < sizeLine := by decide
  have l1 : ∀ a : D, ([a] : List D).length < sizeLine := fun a => by simp only [List.length_cons, List.length_nil]; decide
  have l2 : ∀ a b : D, ([a, b] : List D).length < sizeLine := fun a b => by simp only [List.length_cons, List.length_nil]; decide
  clear ht hL h1 h2 h3
  unfold cp_l_right_k25_1
  rw [v_lc]
  have hit : iSeq (eVk 3) [some b, some (tabD c rs), some (machD true c rs), some (.lst true [cd c1, cd c2, cd c3]), none, none, none, none, none, none, none, none, none] = .ok [cd c1, cd c2, cd c3] [some b, some (tabD c rs), some (machD true c rs), some (.lst false [cd c1, cd c2, cd c3]), none, none, none, none, none, none, none, none, none] := by
    clear m1 m2 m3
    walk_at "ew"
  rw [hit, b_bo]
  have s1 : ce_l_right_k25_1 [some b, some (tabD c rs), some (machD true c rs), some (.lst false [cd c1, cd c2, cd c3]), none, none, none, none, none, none, none, none, some (cd c1)] = .ok (tabM (lng rs) (mapF rs c1)) [some b, some (tabD c rs), some (machD false c rs), some (.lst false [cd c1, cd c2, cd c3]), none, none, none, none, none, none, none, none, some (cd c1)] := by
    unfold ce_l_right_k25_1
    clear m2 m3 hit
    walk_at "ew"
  have s2 : ce_l_right_k25_1 [some b, some (tabD c rs), some (machD false c rs), some (.lst false [cd c1, cd c2, cd c3]), none, none, none, none, none, none, none, none, some (cd c2)] = .ok (tabM (lng rs) (mapF rs c2)) [some b, some (tabD c rs), some (machD false c rs), some (.lst false [cd c1, cd c2, cd c3]), none, none, none, none, none, none, none, none, some (cd c2)] := by
    unfold ce_l_right_k25_1
    clear m1 m3 hit s1
    walk_at "ew"
  have s3 : ce_l_right_k25_1 [some b, some (tabD c rs), some (machD false c rs), some (.lst false [cd c1, cd c2, cd c3]), none, none, none, none, none, none, none, none, some (cd c3)] = .ok (tabM (lng rs) (mapF rs c3)) [some b, some (tabD c rs), some (machD false c rs), some (.lst false [cd c1, cd c2, cd c3]), none, none, none, none, none, none, none, none, some (cd c3)] := by
    unfold ce_l_right_k25_1
    clear m1 m2 hit s1 s2
    walk_at "ew"
  clear m1 m2 m3 hit hz hz' hzz zc fc
  simp only [lcF, gN, wi_c, wi_n, List.set_cons_succ, List.set_cons_zero, v_bYes, v_b0, if_true, s1, s2, s3, List.nil_append, List.cons_append, List.append_assoc, l0, l1, l2, b_b0]
theorem right25_spec {N : Nat} {b : D} (hb : Bx N b) (hN : N ≤ 2 ^ 50) : ∃ b', m_l_right_k25 [b] = .ok (.bl true) [b'] := by
  obtain ⟨c, L, rs, b1, t1, ht, hL, hc, hb1⟩ := small_spec hb (by omega)
  have hm := machine_spec ht hL
  have hlng := ht.lng
  have ft := fzn_tab (c := c) (rs := rs)
  obtain ⟨c1, c2, c3, b2, hcs, l1, l2, l3, hb2⟩ := codes_spec ht hb1 (by omega)
  have hms := maps_spec (b := b2) (c1 := c1) (c2 := c2) (c3 := c3) ht hL l1 l2 l3
  have L1000 : lng rs ≤ 1000 := by omega
  have G1 := good_map (code := c1) ht
  have G2 := good_map (code := c2) ht
  have G3 := good_map (code := c3) ht
  have a1 := add_cd (a := c1) (b := c2) (by omega)
  have a2 := add_cd (a := c1 ++ c2) (b := c3) (by simp; omega)
  have k1 : m_l_map [tabD c rs, cd (c1 ++ c2 ++ c3)] = .ok (tabM (lng rs) (mapF rs (c1 ++ c2 ++ c3))) [] := l_map_spec ht hL
  have k0 : m_l_map [tabD c rs, cd c1] = .ok (tabM (lng rs) (mapF rs c1)) [] := l_map_spec ht hL
  obtain ⟨x, hx⟩ := repr_tab L1000 (small_map (code := c1 ++ c2 ++ c3) ht hL (by simp; omega))
  have q1 := compose_spec (g := mapF rs c2) L1000 G1
  have q2 := compose_spec (g := mapF rs c3) L1000 (good_c G1 G2)
  have q3 := compose_spec (g := mapF rs c3) L1000 G2
  have q4 := compose_spec (g := oF (mapF rs c2) (mapF rs c3)) L1000 G1
  rw [← oF_assoc] at q4
  rw [← mapF_app, ← mapF_app] at q2 q4
  rw [← mapF_app] at q1 q3 q4
  have hid : m_identity_map [machD false c rs] = .ok (tabM (lng rs) eF) [] := ident_spec ht hL
  have q5 := compose_spec (L := lng rs) (f := eF) (g := mapF rs c1) L1000 good_e
  have q6 := compose_spec (g := eF) L1000 G1
  rw [oF_eL] at q5
  rw [oF_eR] at q6
  obtain ⟨y, hy⟩ := repr_two L1000 (small_map (code := c1) ht hL (by omega))
  have z := @fzn_tabM
  have zc := @fzn_cd
  have hz := fzn_mach (c := c) (rs := rs)
  have pw : ∀ i : Nat, i < 8 → ∃ x, m_repeat_map [tabM (lng rs) (mapF rs c2), .int i] = .ok (tabM (lng rs) (powF (mapF rs c2) i)) [] ∧ m_l_map [tabD c rs, cd (List.replicate i c2).flatten] = .ok (tabM (lng rs) (powF (mapF rs c2) i)) [] ∧ fMul2 (cd c2) (.int (i : Int)) = some (cd (List.replicate i c2).flatten) ∧ fRepr [tabM (lng rs) (powF (mapF rs c2) i)] = some (.str x) := by
    intro i hi
    have hlen : (List.replicate i c2).flatten.length ≤ 1000 := by
      rw [List.length_flatten, List.map_replicate, List.sum_replicate_nat]
      have : i * c2.length ≤ 8 * 20 := Nat.mul_le_mul (by omega) l2
      omega
    obtain ⟨x, hx⟩ := repr_tab L1000 (small_map (code := (List.replicate i c2).flatten) ht hL hlen)
    have k : m_l_map [tabD c rs, cd (List.replicate i c2).flatten] = .ok (tabM (lng rs) (mapF rs (List.replicate i c2).flatten)) [] := l_map_spec ht hL
    rw [mapF_rep] at hx k
    exact ⟨x, repeat_spec L1000 G2, k, mul_cd (by omega) (by omega), hx⟩
  obtain ⟨e', h1, x9, h2⟩ := for_inv (g := gN 9) (m := lb_l_right_k25_1) ((List.range 8).map fun k : Nat => .int (k : Int)) (fun i env => ∃ x9, env = [some b2, some (tabD c rs), some (machD false c rs), some (.lst false [cd c1, cd c2, cd c3]), some (tabM (lng rs) (mapF rs c1)), some (tabM (lng rs) (mapF rs c2)), some (tabM (lng rs) (mapF rs c3)), some (.str x), some (tabM (lng rs) eF), x9, none, none, none]) (by
    rintro i d _ hd ⟨x9, rfl⟩
    have hi : i < 8 := by
      rcases Nat.lt_or_ge i 8 with g | g
      · exact g
      · rw [List.getElem?_eq_none (by simpa using g)] at hd; cases hd
    rw [List.getElem?_map, List.getElem?_range hi] at hd
    cases hd
    obtain ⟨w, w1, w2, w3, w4⟩ := pw i hi
    refine ⟨_, [some b2, some (tabD c rs), some (machD false c rs), some (.lst false [cd c1, cd c2, cd c3]), some (tabM (lng rs) (mapF rs c1)), some (tabM (lng rs) (mapF rs c2)), some (tabM (lng rs) (mapF rs c3)), some (.str x), some (tabM (lng rs) eF), some (.int i), none, none, none], rfl, .inl ?_, _, rfl⟩
    clear pw hy hx q1 q2 q3 q4 q5 q6 hid k0 k1 a1 a2 G1 G2 G3 L1000 hms hcs l1 l2 l3 hb2 hlng hm hb1 hc hL ht t1 hN hb
    unfold lb_l_right_k25_1
    walk_at "ew") (env := [some b2, some (tabD c rs), some (machD false c rs), some (.lst false [cd c1, cd c2, cd c3]), some (tabM (lng rs) (mapF rs c1)), some (tabM (lng rs) (mapF rs c2)), some (tabM (lng rs) (mapF rs c3)), some (.str x), some (tabM (lng rs) eF), none, none, none, none]) ⟨none, rfl⟩
  subst h2
  have hlp : lp_l_right_k25_1 [some b2, some (tabD c rs), some (machD false c rs), some (.lst false [cd c1, cd c2, cd c3]), some (tabM (lng rs) (mapF rs c1)), some (tabM (lng rs) (mapF rs c2)), some (tabM (lng rs) (mapF rs c3)), some (.str x), some (tabM (lng rs) eF), none, none, none, none] = .ok .nx [some b2, some (tabD c rs), some (machD false c rs), some (.lst false [cd c1, cd c2, cd c3]), some (tabM (lng rs) (mapF rs c1)), some (tabM (lng rs) (mapF rs c2)), some (tabM (lng rs) (mapF rs c3)), some (.str x), some (tabM (lng rs) eF), x9, none, none, none] := by
    unfold lp_l_right_k25_1
    rw [← h1]
    have := rng1_n (j := 8) (by omega)
    have e : ((8 : Nat) : Int) = 8 := rfl
    rw [e] at this
    clear h1 pw hy hx q1 q2 q3 q4 q5 q6 hid k0 k1 a1 a2 G1 G2 G3 L1000 hms hcs l1 l2 l3 hb2 hlng hm hb1 hc hL ht t1 hN hb
    walk_at "ew"
  obtain ⟨r3, b3, t3, p5, p6, hb3⟩ := take_spec (m := 10 ^ 18) hb2 (by omega) (by decide +kernel) (by decide +kernel)
  obtain ⟨g0, rfl⟩ := Int.eq_ofNat_of_zero_le p5
  obtain ⟨gr, b4, t4, p7, hb4⟩ := of_spec (xs := [.int (10 ^ 29), .int (10 ^ 15), .int (2 ^ 60 - 1), .int (2 ^ 60), .int g0]) hb3 (by omega) (.inl rfl) (by simp) (by simp) rfl
  obtain ⟨n, rfl, hn⟩ : ∃ n : Nat, gr = .int n ∧ n ≤ 10 ^ 30 := by
    simp only [List.mem_cons, List.not_mem_nil, or_false] at p7
    rcases p7 with rfl | rfl | rfl | rfl | rfl
    · exact ⟨10 ^ 29, rfl, by decide +kernel⟩
    · exact ⟨10 ^ 15, rfl, by decide +kernel⟩
    · exact ⟨2 ^ 60 - 1, rfl, by decide +kernel⟩
    · exact ⟨2 ^ 60, rfl, by decide +kernel⟩
    · exact ⟨g0, rfl, by omega⟩
  have M1 : ∀ q < lng rs, (mapF rs c1 q).2 ≤ 1000 := fun q _ => by
    have := (mapF_le (fun b => lenAt_le ht b) (code := c1) (k := q)).2
    omega
  have r1 := repeat_spec (n := n) L1000 G1
  have r2 := powered_spec (n := n) L1000 G1 M1 hn (Nat.le_refl _)
  obtain ⟨w, hw⟩ := repr_tab L1000 (small_pow L1000 G1 M1 hn)
  have e29 : fPow (.int 10) (.int 29) = some (.int (10 ^ 29)) := by unfold fPow fI2; simp only; rw [if_pos (by decide)]; rfl
  have e15 : fPow (.int 10) (.int 15) = some (.int (10 ^ 15)) := by unfold fPow fI2; simp only; rw [if_pos (by decide)]; rfl
  have e60 : fPow (.int 2) (.int 60) = some (.int (2 ^ 60)) := by unfold fPow fI2; simp only; rw [if_pos (by decide)]; rfl
  have zm := fzn_mach (c := c) (rs := rs)
  clear h1 pw G1 G2 G3 M1 L1000 l1 l2 l3 hb hb1 hb2 hb3 hb4 hlng hc hL ht hN p5 p6 p7 hn
  refine ⟨b4, ?_⟩
  unfold m_l_right_k25 b_l_right_k25
  rw [v_fn]
  walk_at "env"
  refine fin_seq (e := [some b1, some (tabD c rs), none, none, none, none, none, none, none, none, none, none, none]) ?_ ?_
  · clear hm hcs hms hlp t3 t4
    walk_at "ew"
  refine fin_seq (e := [some b2, some (tabD c rs), some (machD true c rs), some (.lst true [cd c1, cd c2, cd c3]), none, none, none, none, none, none, none, none, none]) ?_ ?_
  · clear hms hlp t3 t4 t1
    walk_at "ew"
  refine fin_seq (e := [some b2, some (tabD c rs), some (machD false c rs), some (.lst false [cd c1, cd c2, cd c3]), some (tabM (lng rs) (mapF rs c1)), some (tabM (lng rs) (mapF rs c2)), some (tabM (lng rs) (mapF rs c3)), none, none, none, none, none, none]) ?_ ?_
  · clear hcs hlp t3 t4 t1 hm
    walk_at "ew"
  clear t1 hm hcs hms
  refine fin_seq (e := [some b2, some (tabD c rs), some (machD false c rs), some (.lst false [cd c1, cd c2, cd c3]), some (tabM (lng rs) (mapF rs c1)), some (tabM (lng rs) (mapF rs c2)), some (tabM (lng rs) (mapF rs c3)), some (.str x), none, none, none, none, none]) ?_ ?_
  · clear hlp t3 t4 q1 q2 q3 q4 q5 q6 hid k0 r1 r2 hw hy
    walk_at "ew"
  refine fin_seq (e := [some b2, some (tabD c rs), some (machD false c rs), some (.lst false [cd c1, cd c2, cd c3]), some (tabM (lng rs) (mapF rs c1)), some (tabM (lng rs) (mapF rs c2)), some (tabM (lng rs) (mapF rs c3)), some (.str x), none, none, none, none, none]) ?_ ?_
  · clear hlp t3 t4 q3 q4 q5 q6 hid k0 r1 r2 hw hy
    walk_at "ew"
  refine fin_seq (e := [some b2, some (tabD c rs), some (machD false c rs), some (.lst false [cd c1, cd c2, cd c3]), some (tabM (lng rs) (mapF rs c1)), some (tabM (lng rs) (mapF rs c2)), some (tabM (lng rs) (mapF rs c3)), some (.str x), none, none, none, none, none]) ?_ ?_
  · clear hlp t3 t4 q1 q2 q5 q6 hid k0 r1 r2 hw hy
    walk_at "ew"
  refine fin_seq (e := [some b2, some (tabD c rs), some (machD false c rs), some (.lst false [cd c1, cd c2, cd c3]), some (tabM (lng rs) (mapF rs c1)), some (tabM (lng rs) (mapF rs c2)), some (tabM (lng rs) (mapF rs c3)), some (.str x), some (tabM (lng rs) eF), none, none, none, none]) ?_ ?_
  · clear hlp t3 t4 q1 q2 q3 q4 q5 q6 k0 r1 r2 hw hy hx
    walk_at "ew"
  refine fin_seq (e := [some b2, some (tabD c rs), some (machD false c rs), some (.lst false [cd c1, cd c2, cd c3]), some (tabM (lng rs) (mapF rs c1)), some (tabM (lng rs) (mapF rs c2)), some (tabM (lng rs) (mapF rs c3)), some (.str x), some (tabM (lng rs) eF), none, none, none, none]) ?_ ?_
  · clear hlp t3 t4 q1 q2 q3 q4 hid k0 r1 r2 hw hx
    walk_at "ew"
  refine fin_seq hlp ?_
  clear hlp q1 q2 q3 q4 q5 q6 hid hx hy k1 a1 a2
  refine fin_seq (e := [some b4, some (tabD c rs), some (machD false c rs), some (.lst false [cd c1, cd c2, cd c3]), some (tabM (lng rs) (mapF rs c1)), some (tabM (lng rs) (mapF rs c2)), some (tabM (lng rs) (mapF rs c3)), some (.str x), some (tabM (lng rs) eF), x9, some (.int n), none, none]) ?_ ?_
  · clear r1 r2 hw k0
    walk_at "ew"
  clear t3 t4
  walk_at "ew"
theorem law_k25 (ns : List Int) (hn : ns.length ≤ 63) : m_law_k25 [.scr (ns.map .int)] = .ok (.bl true) [] := by
  obtain ⟨u, hu, u1⟩ : ∃ u : Nat, fMin2 [.int 3, .int ((ns.map D.int).length : Nat)] = some (.int u) ∧ u ≤ 3 := by
    by_cases h : (((ns.map D.int).length : Nat) : Int) < 3
    · exact ⟨(ns.map D.int).length, by simp only [fMin2, h, if_true], by omega⟩
    · exact ⟨3, by simp only [fMin2, h, if_false]; rfl, by omega⟩
  obtain ⟨v, hv, v1, v2⟩ : ∃ v : Nat, fMax2 [.int 1, .int (u : Int)] = some (.int v) ∧ 1 ≤ v ∧ v ≤ 3 := by
    by_cases h : (u : Int) > 1
    · exact ⟨u, by simp only [fMax2, h, if_true], by omega, by omega⟩
    · exact ⟨1, by simp only [fMax2, h, if_false]; rfl, by omega, by omega⟩
  have z : fznL (ns.map D.int) = true := fznL_map fun _ _ => rfl
  have hc : cp_law_k25_1 [some (.scr (ns.map .int)), none] = .ok (.lst true ((List.range v).map fun _ => .bl true)) [some (.scr (ns.map .int)), none] := by
    unfold cp_law_k25_1
    refine eLc_map (List.range v) (fun k : Nat => .int (k : Int)) _ (e := [some (.scr (ns.map .int)), none]) ?_ rfl (by rw [List.length_range]; exact Nat.le_trans (by omega : v ≤ 12) (by decide)) fun q hq => ⟨[some (.scr (ns.map .int)), some (.int q)], rfl, ?_, rfl⟩
    · have := rng1_n (j := v) (by omega)
      clear hn u1 v1 v2
      walk_at "ew"
    · have hq3 : q < v := by simpa using hq
      obtain ⟨b, h1, h2⟩ := box_spec (ns := ns) (k := q) (by omega)
      obtain ⟨b', h3⟩ := right25_spec h2 (by decide)
      have h4 : fDrop [true] [false] m_l_right_k25 [b] = .ok (.bl true) [] := by
        unfold fDrop
        rw [h3]
        rfl
      unfold ce_law_k25_1
      clear hu hv hn u1 v1 v2 h2 h3 hq hq3
      walk_at "ew"
  have ha := all_t (o := true) (l := List.range v)
  clear hu hv hn u1 v1 v2
  unfold m_law_k25 b_law_k25
  rw [v_fn]
  walk_at "ew"
end Mi

set_option maxHeartbeats 4000000
set_option exponentiation.threshold 100000
namespace Mi
open PySem PySem.Spec PyProof.Rows L2 RZ Ov PpSet
local macro_rules | `(tactic| walk_at "ev") => `(tactic| simp -dsimp only [*, b_bo, b_b0, v_bo, v_b0, v_c, v_v, v_mv, v_vk, v_k, v_fk, v_nil, v_cons, v_1, v_2, v_L, v_bB, asB_b, v_bAnd, v_bOr, v_bNot, v_bYes, v_if, v_and, v_or, v_not, v_tup, v_lst, v_fld, asI_i, v_oN, v_oS, optI_i, v_sl, v_rg1, v_rg2, v_lrg, v_trg, chainK_b, v_chain,
  Fl.k_nx, Fl.k_rt, Fl.k_bk, Fl.k_ct, v_seq, v_pass, v_bk, v_ct, v_ret, v_retN, v_expr, v_sif, v_asg, optE_s, v_gN, v_gT, v_gsN, v_gsC, Option.bind_some, v_par, v_par3, v_aug, v_put, v_sfld, v_for, optL_s, v_iSeq, v_iOf, v_iStr, v_lc, v_mList, Rf.back_ok, optP_s, v_callF, v_call, v_aN, v_aE, v_aI, v_fN, v_fE, v_fI, optD_s, Option.map_some,
  v_kN, v_kE, v_kI, v_methE, v_methI, Rf.newB_ok, v_new, fin_rt, fin_nx, getR_s, liftK_s, R.ite_t, R.ite_f, List.getElem?_cons_zero, List.getElem?_cons_succ, List.set_cons_zero, List.set_cons_succ, List.map_cons, List.map_nil, List.cons_append, List.nil_append, List.replicate_succ, List.replicate_zero, k2_s, k3_s, insK_s, strK_s, mlK_s, optF_s, joinO_s, v_gp, v_gq, fldO_s, v_gf, setO_s, v_gs, optR_s, al_n, al_c, pi_t, pi_f, pi_n, wi_n, wi_c,
  add_i, sub_i, mod_i, div_i, pow_60, pow_18, lt_i, le_i, gt_i, ge_i, mul_i, is_n, nis_n, is_i, nis_i, is_t, nis_t, ix_t, ix_l, ix_s, set0, set1, set2, len_t, len_l, len_s, abs_i, int_i, int_b, sl_l, sl_t, fz_l, fz_t, fz_d, fz_i, seq_t, seq_l, zip_l, zip_t, enum_l, tuple_l, tuple_t, list_l, list_t, neg_i, isa_isInt_non, isa_isInt_bl, isa_isInt_int, isa_isInt_str, isa_isInt_tup, isa_isInt_lst, isa_isInt_scr, isa_isInt_dct, isa_isBool_non, isa_isBool_bl, isa_isBool_int, isa_isBool_str, isa_isBool_tup, isa_isBool_lst, isa_isBool_scr, isa_isBool_dct, isa_isStr_non, isa_isStr_bl, isa_isStr_int, isa_isStr_str, isa_isStr_tup, isa_isStr_lst, isa_isStr_scr, isa_isStr_dct, isa_isTuple_non, isa_isTuple_bl, isa_isTuple_int, isa_isTuple_str, isa_isTuple_tup, isa_isTuple_lst, isa_isTuple_scr, isa_isTuple_dct, isa_isList_non, isa_isList_bl, isa_isList_int, isa_isList_str, isa_isList_tup, isa_isList_lst, isa_isList_scr, isa_isList_dct, isa_isDict_non, isa_isDict_bl, isa_isDict_int, isa_isDict_str, isa_isDict_tup, isa_isDict_lst, isa_isDict_scr, isa_isDict_dct, eq_i, ne_i, eq_s, ne_s, fzn_1, fzn_2, fzn_3, fzn_4, fzn_5, fzn_6, fzn_7, fzn_8, fzn_9, fzn_s, fznL_n, fznL_c, fznK_n, fznK_c, fznF_n, fznF_c, sz0, sz1, sz2, sz3, sz4, sz5, sz6, sz7, sz8, pk1, pk2, pk3, pk4, fzL_n, fzL_c, fz_int, fz_bl, fz_str, fz_non, putD_n, putD_c, at0, at1, at2, at3, ix0, ix1, ix2, Bool.not_true, Bool.not_false, Bool.true_and, Bool.and_true, Bool.false_and, Bool.and_false, Bool.or_true, Bool.true_or, Bool.false_or, Bool.or_false, if_true, if_false, Bool.false_eq_true, decide_true, decide_false, and_self, and_true, true_and, not_true_eq_false, not_false_eq_true, ne_eq, false_and, and_false, eq_self])
local macro_rules | `(tactic| walk_at "env") => `(tactic| simp only [List.map_cons, List.map_nil, List.cons_append, List.nil_append, List.replicate_succ, List.replicate_zero])
/-! ### loops that may return -/
theorem while_ret {c : MB} {m : MS} {env e e' : Env} {r : D} (h : c env = .ok true e) (h2 : m e = .ok (.rt r) e') : sWhile c m env = .ok (.rt r) e' := by
  refine while_eq (n := 1) ?_ (by simp)
  rw [whileF, h]
  simp only [v_bo, if_true, h2]
theorem while_invR {c : MB} {m : MS} (Iv : Env → Prop) (Post : Fl → Env → Prop) (mu : Env → Nat) (h : ∀ env, Iv env → (∃ e e', c env = .ok true e ∧ (m e = .ok .nx e' ∨ m e = .ok .ct e') ∧ Iv e' ∧ mu e' < mu env) ∨ (∃ e, c env = .ok false e ∧ Post .nx e) ∨ ∃ e r e', c env = .ok true e ∧ m e = .ok (.rt r) e' ∧ Post (.rt r) e') :
    ∀ {env : Env}, Iv env → ∃ fl e, sWhile c m env = .ok fl e ∧ Post fl e := by
  have key : ∀ (k : Nat) (env : Env), mu env ≤ k → Iv env → ∃ fl e, sWhile c m env = .ok fl e ∧ Post fl e := by
    intro k
    induction k with
    | zero =>
      intro env hk hi
      rcases h env hi with ⟨e, e', _, _, _, h4⟩ | ⟨e, h1, h2⟩ | ⟨e, r, e', h1, h2, h3⟩
      · omega
      · exact ⟨_, e, while_stop h1, h2⟩
      · exact ⟨_, e', while_ret h1 h2, h3⟩
    | succ k ih =>
      intro env hk hi
      rcases h env hi with ⟨e, e', h1, h2, h3, h4⟩ | ⟨e, h1, h2⟩ | ⟨e, r, e', h1, h2, h3⟩
      · obtain ⟨fl, e2, k1, k2⟩ := ih e' (by omega) h3
        exact ⟨fl, e2, by rw [while_step h1 h2 (by rw [k1]; simp), k1], k2⟩
      · exact ⟨_, e, while_stop h1, h2⟩
      · exact ⟨_, e', while_ret h1 h2, h3⟩
  intro env hi
  exact key _ env (Nat.le_refl _) hi
theorem fin_ret {io : List Bool} {s r : MS} {env e : Env} {d : D} {x : Rf} (h : s env = .ok (.rt d) e) (h2 : fin io (.ok (.rt d) e) = x) : fin io (sSeq s r env) = x := by
  rw [v_seq, h, b_bo, Fl.k_rt, h2]
theorem gadd_i {a b : Int} : gAdd a b = some (.int (a + b)) := nrfl rfl
end Mi

set_option maxHeartbeats 4000000
namespace Mi
open PySem PySem.Spec PyProof.Rows L2 RZ Ov PpSet
noncomputable def b_is_integer_decoding : MS :=
  (sRet (eAnd (e1 (fIsa Kd.isInt) (eV 0)) (eNot (e1 (fIsa Kd.isBool) (eV 0)))))
noncomputable def m_is_integer_decoding : Fun := fnOf 0 [false] b_is_integer_decoding
noncomputable def b_check_entry : MS :=
  (sIf (bOr (bNot (bB (eCall m_is_integer_decoding [.e (eVk 1)]))) (bNot (bB (eChain fLe fLe (eC (.int 0)) (eV 1) (eL fLen (lCons (eV 0) lNil)))))) sNo sPass)
noncomputable def m_check_entry : Fun := fnOf 0 [false, false] b_check_entry
noncomputable def lb_l_countdowns_1 : MS :=
  (sSeq (sIf (bB (e2 fEq2 (eV 4) (eC (.int 0)))) (sAsg (gN 4) (eCall m_l_length_at [.e (eVk 0), .e (eVk 5)])) sPass)
  (sSeq (sAsg (gN 4) (eIf (bAnd (bB (e2 fNis (eV 4) (eC .non))) (bB (e2 fGt (eV 4) (eC (.int 0))))) (e2 fSub (eV 4) (eC (.int 1))) (eC .non)))
  (sExpr (mList (3, none) (lCons (eVk 4) lNil) fAppend))))
noncomputable def lp_l_countdowns_1 : MS :=
  (sFor (iSeq (eSl (eV 1) (oS (eV 2)) oN)) (gN 5) lb_l_countdowns_1)
noncomputable def b_l_countdowns : MS :=
  (sSeq (sPar 3 4 (lCons (eLst (lCons (eC (.int 0)) lNil)) (lCons (eC (.int 0)) lNil)))
  (sSeq lp_l_countdowns_1
  (sRet (eMv 3))))
noncomputable def m_l_countdowns : Fun := fnOf 3 [false, false, false] b_l_countdowns
noncomputable def lb_starts_1 : MS :=
  (sSeq (sAsg (gN 5) (eMeth "InstructionSet" "length_at" m_InstructionSet_length_at (.e (eVk 0)) [.e (eK (e2 fIx (eV 1) (eV 4)))]))
  (sSeq (sIf (bB (e2 fEq2 (eV 5) (eC (.int 0)))) (sRet (eL fTuple (lCons (eV 3) lNil))) sPass)
  (sSeq (sExpr (mList (3, none) (lCons (eVk 4) lNil) fAppend))
  (sAug 4 (fI2 gAdd) (eVk 5)))))
noncomputable def lp_starts_1 : MS :=
  (sWhile (bB (e2 fLt (eV 4) (eL fLen (lCons (eV 1) lNil)))) lb_starts_1)
noncomputable def b_starts : MS :=
  (sSeq (sExpr (eCall m_check_entry [.e (eVk 1), .e (eVk 2)]))
  (sSeq (sPar 3 4 (lCons (eLst lNil) (lCons (eVk 2) lNil)))
  (sSeq lp_starts_1
  (sRet (eL fTuple (lCons (eV 3) lNil))))))
noncomputable def m_starts : Fun := fnOf 3 [false, false, false] b_starts
noncomputable def lb_countdown_at_1 : MS :=
  (sSeq (sAsg (gN 5) (eMeth "InstructionSet" "length_at" m_InstructionSet_length_at (.e (eVk 0)) [.e (eK (e2 fIx (eV 1) (eV 4)))]))
  (sSeq (sIf (bB (e2 fEq2 (eV 5) (eC (.int 0)))) (sRet (eC .non)) sPass)
  (sAug 4 (fI2 gAdd) (eVk 5))))
noncomputable def lp_countdown_at_1 : MS :=
  (sWhile (bB (e2 fLt (eV 4) (eV 3))) lb_countdown_at_1)
noncomputable def b_countdown_at : MS :=
  (sSeq (sExpr (eCall m_check_entry [.e (eVk 1), .e (eVk 2)]))
  (sSeq (sIf (bOr (bNot (bB (eCall m_is_integer_decoding [.e (eVk 3)]))) (bNot (bB (eChain fLe fLe (eV 2) (eV 3) (eL fLen (lCons (eV 1) lNil)))))) sNo sPass)
  (sSeq (sAsg (gN 4) (eVk 2))
  (sSeq lp_countdown_at_1
  (sRet (e2 fSub (eV 4) (eV 3)))))))
noncomputable def m_countdown_at : Fun := fnOf 2 [false, false, false, false] b_countdown_at
noncomputable def lb_l_starts_1 : MS :=
  (sIf (bAnd (bB (e2 fEq2 (eV 5) (eC (.int 0)))) (bAnd (bB (e2 fLt (e2 fAdd (eV 2) (eV 4)) (eL fLen (lCons (eV 1) lNil)))) (bB (e2 fGt (eCall m_l_length_at [.e (eVk 0), .e (eK (e2 fIx (eV 1) (e2 fAdd (eV 2) (eV 4))))]) (eC (.int 0)))))) (sExpr (mList (3, none) (lCons (e2 fAdd (eV 2) (eV 4)) lNil) fAppend)) sPass)
noncomputable def lp_l_starts_1 : MS :=
  (sFor (iOf enumD (lCons (eFk (eCall m_l_countdowns [.e (eVk 0), .e (eVk 1), .e (eVk 2)])) lNil)) (gT (gsCons (gN 4) (gsCons (gN 5) gsNil))) lb_l_starts_1)
noncomputable def b_l_starts : MS :=
  (sSeq (sAsg (gN 3) (eLst lNil))
  (sSeq lp_l_starts_1
  (sRet (eMv 3))))
noncomputable def m_l_starts : Fun := fnOf 3 [false, false, false] b_l_starts
noncomputable def ce_l_right_k23_1 : ME :=
  (eCall m_countdown_at [.e (eVk 2), .e (eVk 3), .e (eVk 4), .e (eVk 6)])
noncomputable def cp_l_right_k23_1 : ME :=
  (eLc (iOf rng2 (lCons (eV 4) (lCons (e2 fAdd (eL fLen (lCons (eV 3) lNil)) (eC (.int 1))) lNil))) (gN 6) bYes ce_l_right_k23_1 [6])
noncomputable def lb_l_right_k23_1 : MS :=
  (sSeq (sIf (bB (e2 fNe2 (eL fRepr (lCons (eCall m_starts [.e (eVk 2), .e (eVk 3), .e (eVk 4)]) lNil)) (eL fRepr (lCons (eL fTuple (lCons (eCall m_l_starts [.e (eVk 1), .e (eVk 3), .e (eVk 4)]) lNil)) lNil)))) (sRet (eC (.bl false))) sPass)
  (sSeq (sAsg (gN 5) cp_l_right_k23_1)
  (sIf (bB (e2 fNe2 (eL fRepr (lCons (eV 5) lNil)) (eL fRepr (lCons (eCall m_l_countdowns [.e (eVk 1), .e (eVk 3), .e (eVk 4)]) lNil)))) (sRet (eC (.bl false))) sPass)))
noncomputable def lp_l_right_k23_1 : MS :=
  (sFor (iOf rng1 (lCons (e2 fAdd (eL fLen (lCons (eV 3) lNil)) (eC (.int 1))) lNil)) (gN 4) lb_l_right_k23_1)
noncomputable def b_l_right_k23 : MS :=
  (sSeq (sAsg (gN 1) (eCall m_l_small [.io 0]))
  (sSeq (sParN [2, 3] (lCons (eCall m_l_machine [.e (eVk 1)]) (lCons (eCall m_l_bytes [.io 0, .e (eVk 1), .e (eFk (eCall m_l_take [.io 0, .e (eC (.int 25))]))]) lNil)))
  (sSeq (sIf (bB (e2 fNe2 (eL fRepr (lCons (eCall (fPad [.int 0] m_starts) [.e (eVk 2), .e (eVk 3)]) lNil)) (eL fRepr (lCons (eL fTuple (lCons (eCall m_l_starts [.e (eVk 1), .e (eVk 3), .e (eC (.int 0))]) lNil)) lNil)))) (sRet (eC (.bl false))) sPass)
  (sSeq lp_l_right_k23_1
  (sRet (eC (.bl true)))))))
noncomputable def m_l_right_k23 : Fun := fnOf 6 [true] b_l_right_k23
noncomputable def ce_law_k23_1 : ME :=
  (eCall (fDrop [true] [false] m_l_right_k23) [.e (eCall m_l_box [.e (eVk 0), .e (eVk 1)])])
noncomputable def cp_law_k23_1 : ME :=
  (eLc (iOf rng1 (lCons (eL fMax2 (lCons (eC (.int 1)) (lCons (eL fMin2 (lCons (eC (.int 3)) (lCons (eL fLen (lCons (eV 0) lNil)) lNil))) lNil))) lNil)) (gN 1) bYes ce_law_k23_1 [1])
noncomputable def b_law_k23 : MS :=
  (sRet (eL fAll (lCons cp_law_k23_1 lNil)))
noncomputable def m_law_k23 : Fun := fnOf 1 [false] b_law_k23
end Mi

set_option maxHeartbeats 4000000
set_option exponentiation.threshold 100000
namespace Mi
open PySem PySem.Spec PyProof.Rows L2 RZ Ov PpSet
local macro_rules | `(tactic| walk_at "ev") => `(tactic| simp -dsimp only [*, b_bo, b_b0, v_bo, v_b0, v_c, v_v, v_mv, v_vk, v_k, v_fk, v_nil, v_cons, v_1, v_2, v_L, v_bB, asB_b, v_bAnd, v_bOr, v_bNot, v_bYes, v_if, v_and, v_or, v_not, v_tup, v_lst, v_fld, asI_i, v_oN, v_oS, optI_i, v_sl, v_rg1, v_rg2, v_lrg, v_trg, chainK_b, v_chain,
  Fl.k_nx, Fl.k_rt, Fl.k_bk, Fl.k_ct, v_seq, v_pass, v_bk, v_ct, v_ret, v_retN, v_expr, v_sif, v_asg, optE_s, v_gN, v_gT, v_gsN, v_gsC, Option.bind_some, v_par, v_par3, v_aug, v_put, v_sfld, v_for, optL_s, v_iSeq, v_iOf, v_iStr, v_lc, v_mList, Rf.back_ok, optP_s, v_callF, v_call, v_aN, v_aE, v_aI, v_fN, v_fE, v_fI, optD_s, Option.map_some,
  v_kN, v_kE, v_kI, v_methE, v_methI, Rf.newB_ok, v_new, fin_rt, fin_nx, getR_s, liftK_s, R.ite_t, R.ite_f, List.getElem?_cons_zero, List.getElem?_cons_succ, List.set_cons_zero, List.set_cons_succ, List.map_cons, List.map_nil, List.cons_append, List.nil_append, List.replicate_succ, List.replicate_zero, k2_s, k3_s, insK_s, strK_s, mlK_s, optF_s, joinO_s, v_gp, v_gq, fldO_s, v_gf, setO_s, v_gs, optR_s, al_n, al_c, pi_t, pi_f, pi_n, wi_n, wi_c,
  add_i, sub_i, mod_i, div_i, pow_60, pow_18, lt_i, le_i, gt_i, ge_i, mul_i, is_n, nis_n, is_i, nis_i, is_t, nis_t, ix_t, ix_l, ix_s, set0, set1, set2, len_t, len_l, len_s, abs_i, int_i, int_b, sl_l, sl_t, fz_l, fz_t, fz_d, fz_i, seq_t, seq_l, zip_l, zip_t, enum_l, tuple_l, tuple_t, list_l, list_t, neg_i, isa_isInt_non, isa_isInt_bl, isa_isInt_int, isa_isInt_str, isa_isInt_tup, isa_isInt_lst, isa_isInt_scr, isa_isInt_dct, isa_isBool_non, isa_isBool_bl, isa_isBool_int, isa_isBool_str, isa_isBool_tup, isa_isBool_lst, isa_isBool_scr, isa_isBool_dct, isa_isStr_non, isa_isStr_bl, isa_isStr_int, isa_isStr_str, isa_isStr_tup, isa_isStr_lst, isa_isStr_scr, isa_isStr_dct, isa_isTuple_non, isa_isTuple_bl, isa_isTuple_int, isa_isTuple_str, isa_isTuple_tup, isa_isTuple_lst, isa_isTuple_scr, isa_isTuple_dct, isa_isList_non, isa_isList_bl, isa_isList_int, isa_isList_str, isa_isList_tup, isa_isList_lst, isa_isList_scr, isa_isList_dct, isa_isDict_non, isa_isDict_bl, isa_isDict_int, isa_isDict_str, isa_isDict_tup, isa_isDict_lst, isa_isDict_scr, isa_isDict_dct, eq_i, ne_i, eq_s, ne_s, fzn_1, fzn_2, fzn_3, fzn_4, fzn_5, fzn_6, fzn_7, fzn_8, fzn_9, fzn_s, fznL_n, fznL_c, fznK_n, fznK_c, fznF_n, fznF_c, sz0, sz1, sz2, sz3, sz4, sz5, sz6, sz7, sz8, pk1, pk2, pk3, pk4, fzL_n, fzL_c, fz_int, fz_bl, fz_str, fz_non, putD_n, putD_c, at0, at1, at2, at3, ix0, ix1, ix2, Bool.not_true, Bool.not_false, Bool.true_and, Bool.and_true, Bool.false_and, Bool.and_false, Bool.or_true, Bool.true_or, Bool.false_or, Bool.or_false, if_true, if_false, Bool.false_eq_true, decide_true, decide_false, and_self, and_true, true_and, not_true_eq_false, not_false_eq_true, ne_eq, false_and, and_false, eq_self])
local macro_rules | `(tactic| walk_at "env") => `(tactic| simp only [List.map_cons, List.map_nil, List.cons_append, List.nil_append, List.replicate_succ, List.replicate_zero])
local macro_rules | `(tactic| walk_at "ew") => `(tactic| simp -dsimp only [*, b_bo, b_b0, v_bo, v_b0, v_c, v_v, v_mv, v_vk, v_k, v_fk, v_nil, v_cons, v_1, v_2, v_L, v_bB, asB_b, v_bAnd, v_bOr, v_bNot, v_bYes, v_if, v_and, v_or, v_not, v_tup, v_lst, v_fld, asI_i, v_oN, v_oS, optI_i, v_sl, v_rg1, v_rg2, v_lrg, v_trg, chainK_b, v_chain,
  Fl.k_nx, Fl.k_rt, Fl.k_bk, Fl.k_ct, v_seq, v_pass, v_bk, v_ct, v_ret, v_retN, v_expr, v_sif, v_asg, optE_s, v_gN, v_gT, v_gsN, v_gsC, Option.bind_some, v_par, v_par3, v_aug, v_put, v_sfld, v_for, optL_s, v_iSeq, v_iOf, v_iStr, v_lc, v_mList, Rf.back_ok, optP_s, v_callF, v_call, v_aN, v_aE, v_aI, v_fN, v_fE, v_fI, optD_s, Option.map_some,
  v_kN, v_kE, v_kI, v_methE, v_methI, Rf.newB_ok, v_new, fin_rt, fin_nx, getR_s, liftK_s, R.ite_t, R.ite_f, List.getElem?_cons_zero, List.getElem?_cons_succ, List.set_cons_zero, List.set_cons_succ, List.map_cons, List.map_nil, List.cons_append, List.nil_append, List.replicate_succ, List.replicate_zero, k2_s, k3_s, insK_s, strK_s, mlK_s, optF_s, joinO_s, v_gp, v_gq, fldO_s, v_gf, setO_s, v_gs, optR_s, al_n, al_c, pi_t, pi_f, pi_n, wi_n, wi_c,
  add_i, sub_i, mod_i, div_i, pow_60, pow_18, lt_i, le_i, gt_i, ge_i, mul_i, is_n, nis_n, is_i, nis_i, is_t, nis_t, ix_t, ix_l, ix_s, set0, set1, set2, len_t, len_l, len_s, abs_i, int_i, int_b, sl_l, sl_t, fz_l, fz_t, fz_d, fz_i, seq_t, seq_l, zip_l, zip_t, enum_l, tuple_l, tuple_t, list_l, list_t, neg_i, isa_isInt_non, isa_isInt_bl, isa_isInt_int, isa_isInt_str, isa_isInt_tup, isa_isInt_lst, isa_isInt_scr, isa_isInt_dct, isa_isBool_non, isa_isBool_bl, isa_isBool_int, isa_isBool_str, isa_isBool_tup, isa_isBool_lst, isa_isBool_scr, isa_isBool_dct, isa_isStr_non, isa_isStr_bl, isa_isStr_int, isa_isStr_str, isa_isStr_tup, isa_isStr_lst, isa_isStr_scr, isa_isStr_dct, isa_isTuple_non, isa_isTuple_bl, isa_isTuple_int, isa_isTuple_str, isa_isTuple_tup, isa_isTuple_lst, isa_isTuple_scr, isa_isTuple_dct, isa_isList_non, isa_isList_bl, isa_isList_int, isa_isList_str, isa_isList_tup, isa_isList_lst, isa_isList_scr, isa_isList_dct, isa_isDict_non, isa_isDict_bl, isa_isDict_int, isa_isDict_str, isa_isDict_tup, isa_isDict_lst, isa_isDict_scr, isa_isDict_dct, eq_i, ne_i, eq_s, ne_s, fzn_1, fzn_2, fzn_3, fzn_4, fzn_5, fzn_6, fzn_7, fzn_8, fzn_9, fzn_s, fznL_n, fznL_c, fznK_n, fznK_c, fznF_n, fznF_c, sz0, sz1, sz2, sz3, sz4, sz5, sz6, sz7, sz8, pk1, pk2, pk3, pk4, fzL_n, fzL_c, fz_int, fz_bl, fz_str, fz_non, putD_n, putD_c, at0, at1, at2, at3, ix0, ix1, ix2, Bool.not_true, Bool.not_false, Bool.true_and, Bool.and_true, Bool.false_and, Bool.and_false, Bool.or_true, Bool.true_or, Bool.false_or, Bool.or_false, if_true, if_false, Bool.false_eq_true, decide_true, decide_false, and_self, and_true, true_and, not_true_eq_false, not_false_eq_true, ne_eq, false_and, and_false, eq_self, v_parN, po2, po3, po4, se_n, se_c, v_gUL, v_dnew, fi2_i, gdiv_i, gadd_i])
/-! ### the state along a code -/
def stp (rs : List Row) : Option Nat → Nat → Option Nat
  | none, _ => none
  | some 0, b => if lenAt rs b = 0 then none else some (lenAt rs b - 1)
  | some (k + 1), _ => some k
def stt (rs : List Row) (bs : List Nat) (p : Nat) : Option Nat := (bs.take p).foldl (stp rs) (some 0)
theorem stt_succ {rs : List Row} {bs : List Nat} {p b : Nat} (h : bs[p]? = some b) : stt rs bs (p + 1) = stp rs (stt rs bs p) b := by
  unfold stt
  rw [List.take_succ, h, List.foldl_append]
  rfl
theorem stt_none {rs : List Row} {bs : List Nat} {p q : Nat} (h : stt rs bs p = none) (hq : p ≤ q) : stt rs bs q = none := by
  obtain ⟨d, rfl⟩ : ∃ d, q = p + d := ⟨q - p, by omega⟩
  clear hq
  induction d with
  | zero => exact h
  | succ d ih =>
    rw [← Nat.add_assoc]
    cases e : bs[p + d]? with
    | some b => rw [stt_succ e, ih]; rfl
    | none =>
      unfold stt at ih ⊢
      have hl : bs.length ≤ p + d := List.getElem?_eq_none_iff.mp e
      rw [List.take_of_length_le (by omega)]
      rw [List.take_of_length_le hl] at ih
      exact ih
theorem stt_run {rs : List Row} {bs : List Nat} {p b : Nat} (h : stt rs bs p = some 0) (hb : bs[p]? = some b) (h0 : lenAt rs b ≠ 0) : ∀ j, 1 ≤ j → j ≤ lenAt rs b → p + j ≤ bs.length → stt rs bs (p + j) = some (lenAt rs b - j)
  | 0, h1, _, _ => by omega
  | 1, _, _, _ => by
    rw [stt_succ hb, h]
    show (if lenAt rs b = 0 then none else some (lenAt rs b - 1)) = _
    rw [if_neg h0]
  | j + 2, _, h2, h3 => by
    have ih := stt_run h hb h0 (j + 1) (by omega) (by omega) (by omega)
    have hl : p + (j + 1) < bs.length := by omega
    rw [show p + (j + 2) = p + (j + 1) + 1 by omega, stt_succ (List.getElem?_eq_getElem hl), ih, show lenAt rs b - (j + 1) = (lenAt rs b - (j + 2)) + 1 by omega]
    rfl
theorem stt_zero {rs : List Row} {bs : List Nat} : stt rs bs 0 = some 0 := by unfold stt; rw [List.take_zero]; rfl
theorem stt_stop {rs : List Row} {bs : List Nat} {p b : Nat} (h : stt rs bs p = some 0) (hb : bs[p]? = some b) (h0 : lenAt rs b = 0) : stt rs bs (p + 1) = none := by
  rw [stt_succ hb, h]
  show (if lenAt rs b = 0 then none else some (lenAt rs b - 1)) = _
  rw [if_pos h0]
/-! ### the law's countdowns -/
def cdl (rs : List Row) (bs : List Nat) : List D := (List.range (bs.length + 1)).map fun p => oI (stt rs bs p)
theorem cut_drop {α : Type} {xs : List α} {k : Nat} (h : k ≤ xs.length) : cutA xs (some (k : Int)) none = xs.drop k := by
  unfold cutA
  have h1 : HT.sIx xs.length 0 (some (k : Int)) = k := by
    simp [HT.sIx]
    rw [if_neg (by omega)]
    omega
  have h2 : HT.sIx xs.length xs.length none = xs.length := by simp [HT.sIx]
  rw [h1, h2]
  exact List.take_of_length_le (by simp)
theorem app_oI {i : Nat} {g : Nat → Option Nat} (hi : i ≤ 1000) : fAppend ((List.range i).map fun q => oI (g q)) [oI (g i)] = some (.non, (List.range (i + 1)).map fun q => oI (g q)) := by
  unfold fAppend
  simp only [List.length_map, List.length_range]
  rw [if_pos (Nat.lt_of_le_of_lt hi (by decide)), List.range_succ, List.map_append]
  rfl
theorem countdowns_spec {c L : Nat} {rs : List Row} {code : List Nat} {en : Nat} (h : TabOk c L rs) (hc : code.length ≤ 900) (he : en ≤ code.length) : m_l_countdowns [tabD c rs, cd code, .int en] = .ok (.lst true (cdl rs (code.drop en))) [] := by
  have ft := fzn_tab (c := c) (rs := rs)
  generalize hbs : code.drop en = bs
  have hbl : bs.length ≤ 900 := by rw [← hbs, List.length_drop]; omega
  obtain ⟨e', h1, x5, h2⟩ := for_inv (g := gN 5) (m := lb_l_countdowns_1) (bs.map fun b : Nat => .int b) (fun i env => ∃ x5, env = [some (tabD c rs), some (cd code), some (.int en), some (.lst true ((List.range (i + 1)).map fun p => oI (stt rs bs p))), some (oI (stt rs bs i)), x5]) (by
    rintro i d _ hd ⟨x5, rfl⟩
    rw [List.getElem?_map, Option.map_eq_some_iff] at hd
    obtain ⟨b, hb, rfl⟩ := hd
    have hi : i < bs.length := by
      rcases Nat.lt_or_ge i bs.length with g | g
      · exact g
      · rw [List.getElem?_eq_none g] at hb; cases hb
    have ha := app_oI (g := stt rs bs) (i := i + 1) (by omega)
    have hs := stt_succ (rs := rs) hb
    have hl := l_length_at_spec (b := b) h
    generalize (List.range (i + 1)).map (fun q => oI (stt rs bs q)) = Fi at *
    generalize (List.range (i + 1 + 1)).map (fun q => oI (stt rs bs q)) = Fj at *
    rw [hs] at ha
    refine ⟨_, [some (tabD c rs), some (cd code), some (.int en), some (.lst true Fj), some (oI (stp rs (stt rs bs i) b)), some (.int b)], rfl, .inl ?_, _, by rw [hs]⟩
    unfold lb_l_countdowns_1
    have en0 := @eq_non
    match e : stt rs bs i with
    | none =>
      rw [e] at ha
      have ha : fAppend Fi [.non] = some (.non, Fj) := ha
      clear h hc he hbs hbl hb hi hs hl e
      show _ = R.ok Fl.nx [some (tabD c rs), some (cd code), some (.int en), some (.lst true Fj), some .non, some (.int b)]
      unfold oI
      walk_at "ew"
    | some (k + 1) =>
      rw [e] at ha
      have ha : fAppend Fi [.int (k : Nat)] = some (.non, Fj) := ha
      have e1 : ¬ ((k + 1 : Nat) : Int) = 0 := by omega
      have e2 : ((k + 1 : Nat) : Int) - 1 = (k : Int) := by omega
      have e3 : (0 : Int) < ((k + 1 : Nat) : Int) := by omega
      clear h hc he hbs hbl hb hi hs hl e en0
      show _ = R.ok Fl.nx [some (tabD c rs), some (cd code), some (.int en), some (.lst true Fj), some (.int (k : Nat)), some (.int b)]
      unfold oI
      walk_at "ew"
    | some 0 =>
      rw [e] at ha
      have e0 : ((0 : Nat) : Int) = 0 := rfl
      by_cases g : lenAt rs b = 0
      · have hst : stp rs (some 0) b = none := if_pos g
        rw [hst] at ha ⊢
        rw [g] at hl
        have ha : fAppend Fi [.non] = some (.non, Fj) := ha
        have e1 : ¬ (0 : Int) < 0 := by decide
        clear h hc he hbs hbl hb hi hs e en0 hst g
        unfold oI
        walk_at "ew"
      · have hst : stp rs (some 0) b = some (lenAt rs b - 1) := if_neg g
        rw [hst] at ha ⊢
        have ha : fAppend Fi [.int (lenAt rs b - 1 : Nat)] = some (.non, Fj) := ha
        have e1 : (0 : Int) < (lenAt rs b : Int) := by omega
        have e4 : (lenAt rs b : Int) - 1 = ((lenAt rs b - 1 : Nat) : Int) := by omega
        clear h hc he hbs hbl hb hi hs e en0 hst g
        unfold oI
        walk_at "ew") (env := [some (tabD c rs), some (cd code), some (.int en), some (.lst true [.int 0]), some (.int 0), none]) ⟨none, by rw [stt_zero]; simp [stt_zero, oI]⟩
  simp only [List.length_map] at h2
  subst h2
  have h3 : lp_l_countdowns_1 [some (tabD c rs), some (cd code), some (.int en), some (.lst true [.int 0]), some (.int 0), none] = .ok .nx [some (tabD c rs), some (cd code), some (.int en), some (.lst true (cdl rs bs)), some (oI (stt rs bs bs.length)), x5] := by
    unfold lp_l_countdowns_1 cdl
    rw [← h1, ← hbs, List.map_drop]
    have ec := cut_drop (xs := code.map fun x : Nat => D.int x) (k := en) (by simpa using he)
    have zz : fzL ((code.map fun x : Nat => D.int x).drop en) = (code.map fun x : Nat => D.int x).drop en := by rw [← List.map_drop]; exact fzL_code
    unfold cd
    clear h1 h hc he hbs hbl
    walk_at "ew"
  clear h1 h hc he hbs hbl
  unfold m_l_countdowns b_l_countdowns
  rw [v_fn]
  walk_at "ew"
end Mi

set_option maxHeartbeats 4000000
set_option exponentiation.threshold 100000
namespace Mi
open PySem PySem.Spec PyProof.Rows L2 RZ Ov PpSet
local macro_rules | `(tactic| walk_at "ev") => `(tactic| simp -dsimp only [*, b_bo, b_b0, v_bo, v_b0, v_c, v_v, v_mv, v_vk, v_k, v_fk, v_nil, v_cons, v_1, v_2, v_L, v_bB, asB_b, v_bAnd, v_bOr, v_bNot, v_bYes, v_if, v_and, v_or, v_not, v_tup, v_lst, v_fld, asI_i, v_oN, v_oS, optI_i, v_sl, v_rg1, v_rg2, v_lrg, v_trg, chainK_b, v_chain,
  Fl.k_nx, Fl.k_rt, Fl.k_bk, Fl.k_ct, v_seq, v_pass, v_bk, v_ct, v_ret, v_retN, v_expr, v_sif, v_asg, optE_s, v_gN, v_gT, v_gsN, v_gsC, Option.bind_some, v_par, v_par3, v_aug, v_put, v_sfld, v_for, optL_s, v_iSeq, v_iOf, v_iStr, v_lc, v_mList, Rf.back_ok, optP_s, v_callF, v_call, v_aN, v_aE, v_aI, v_fN, v_fE, v_fI, optD_s, Option.map_some,
  v_kN, v_kE, v_kI, v_methE, v_methI, Rf.newB_ok, v_new, fin_rt, fin_nx, getR_s, liftK_s, R.ite_t, R.ite_f, List.getElem?_cons_zero, List.getElem?_cons_succ, List.set_cons_zero, List.set_cons_succ, List.map_cons, List.map_nil, List.cons_append, List.nil_append, List.replicate_succ, List.replicate_zero, k2_s, k3_s, insK_s, strK_s, mlK_s, optF_s, joinO_s, v_gp, v_gq, fldO_s, v_gf, setO_s, v_gs, optR_s, al_n, al_c, pi_t, pi_f, pi_n, wi_n, wi_c,
  add_i, sub_i, mod_i, div_i, pow_60, pow_18, lt_i, le_i, gt_i, ge_i, mul_i, is_n, nis_n, is_i, nis_i, is_t, nis_t, ix_t, ix_l, ix_s, set0, set1, set2, len_t, len_l, len_s, abs_i, int_i, int_b, sl_l, sl_t, fz_l, fz_t, fz_d, fz_i, seq_t, seq_l, zip_l, zip_t, enum_l, tuple_l, tuple_t, list_l, list_t, neg_i, isa_isInt_non, isa_isInt_bl, isa_isInt_int, isa_isInt_str, isa_isInt_tup, isa_isInt_lst, isa_isInt_scr, isa_isInt_dct, isa_isBool_non, isa_isBool_bl, isa_isBool_int, isa_isBool_str, isa_isBool_tup, isa_isBool_lst, isa_isBool_scr, isa_isBool_dct, isa_isStr_non, isa_isStr_bl, isa_isStr_int, isa_isStr_str, isa_isStr_tup, isa_isStr_lst, isa_isStr_scr, isa_isStr_dct, isa_isTuple_non, isa_isTuple_bl, isa_isTuple_int, isa_isTuple_str, isa_isTuple_tup, isa_isTuple_lst, isa_isTuple_scr, isa_isTuple_dct, isa_isList_non, isa_isList_bl, isa_isList_int, isa_isList_str, isa_isList_tup, isa_isList_lst, isa_isList_scr, isa_isList_dct, isa_isDict_non, isa_isDict_bl, isa_isDict_int, isa_isDict_str, isa_isDict_tup, isa_isDict_lst, isa_isDict_scr, isa_isDict_dct, eq_i, ne_i, eq_s, ne_s, fzn_1, fzn_2, fzn_3, fzn_4, fzn_5, fzn_6, fzn_7, fzn_8, fzn_9, fzn_s, fznL_n, fznL_c, fznK_n, fznK_c, fznF_n, fznF_c, sz0, sz1, sz2, sz3, sz4, sz5, sz6, sz7, sz8, pk1, pk2, pk3, pk4, fzL_n, fzL_c, fz_int, fz_bl, fz_str, fz_non, putD_n, putD_c, at0, at1, at2, at3, ix0, ix1, ix2, Bool.not_true, Bool.not_false, Bool.true_and, Bool.and_true, Bool.false_and, Bool.and_false, Bool.or_true, Bool.true_or, Bool.false_or, Bool.or_false, if_true, if_false, Bool.false_eq_true, decide_true, decide_false, and_self, and_true, true_and, not_true_eq_false, not_false_eq_true, ne_eq, false_and, and_false, eq_self])
local macro_rules | `(tactic| walk_at "env") => `(tactic| simp only [List.map_cons, List.map_nil, List.cons_append, List.nil_append, List.replicate_succ, List.replicate_zero])
local macro_rules | `(tactic| walk_at "ew") => `(tactic| simp -dsimp only [*, b_bo, b_b0, v_bo, v_b0, v_c, v_v, v_mv, v_vk, v_k, v_fk, v_nil, v_cons, v_1, v_2, v_L, v_bB, asB_b, v_bAnd, v_bOr, v_bNot, v_bYes, v_if, v_and, v_or, v_not, v_tup, v_lst, v_fld, asI_i, v_oN, v_oS, optI_i, v_sl, v_rg1, v_rg2, v_lrg, v_trg, chainK_b, v_chain,
  Fl.k_nx, Fl.k_rt, Fl.k_bk, Fl.k_ct, v_seq, v_pass, v_bk, v_ct, v_ret, v_retN, v_expr, v_sif, v_asg, optE_s, v_gN, v_gT, v_gsN, v_gsC, Option.bind_some, v_par, v_par3, v_aug, v_put, v_sfld, v_for, optL_s, v_iSeq, v_iOf, v_iStr, v_lc, v_mList, Rf.back_ok, optP_s, v_callF, v_call, v_aN, v_aE, v_aI, v_fN, v_fE, v_fI, optD_s, Option.map_some,
  v_kN, v_kE, v_kI, v_methE, v_methI, Rf.newB_ok, v_new, fin_rt, fin_nx, getR_s, liftK_s, R.ite_t, R.ite_f, List.getElem?_cons_zero, List.getElem?_cons_succ, List.set_cons_zero, List.set_cons_succ, List.map_cons, List.map_nil, List.cons_append, List.nil_append, List.replicate_succ, List.replicate_zero, k2_s, k3_s, insK_s, strK_s, mlK_s, optF_s, joinO_s, v_gp, v_gq, fldO_s, v_gf, setO_s, v_gs, optR_s, al_n, al_c, pi_t, pi_f, pi_n, wi_n, wi_c,
  add_i, sub_i, mod_i, div_i, pow_60, pow_18, lt_i, le_i, gt_i, ge_i, mul_i, is_n, nis_n, is_i, nis_i, is_t, nis_t, ix_t, ix_l, ix_s, set0, set1, set2, len_t, len_l, len_s, abs_i, int_i, int_b, sl_l, sl_t, fz_l, fz_t, fz_d, fz_i, seq_t, seq_l, zip_l, zip_t, enum_l, tuple_l, tuple_t, list_l, list_t, neg_i, isa_isInt_non, isa_isInt_bl, isa_isInt_int, isa_isInt_str, isa_isInt_tup, isa_isInt_lst, isa_isInt_scr, isa_isInt_dct, isa_isBool_non, isa_isBool_bl, isa_isBool_int, isa_isBool_str, isa_isBool_tup, isa_isBool_lst, isa_isBool_scr, isa_isBool_dct, isa_isStr_non, isa_isStr_bl, isa_isStr_int, isa_isStr_str, isa_isStr_tup, isa_isStr_lst, isa_isStr_scr, isa_isStr_dct, isa_isTuple_non, isa_isTuple_bl, isa_isTuple_int, isa_isTuple_str, isa_isTuple_tup, isa_isTuple_lst, isa_isTuple_scr, isa_isTuple_dct, isa_isList_non, isa_isList_bl, isa_isList_int, isa_isList_str, isa_isList_tup, isa_isList_lst, isa_isList_scr, isa_isList_dct, isa_isDict_non, isa_isDict_bl, isa_isDict_int, isa_isDict_str, isa_isDict_tup, isa_isDict_lst, isa_isDict_scr, isa_isDict_dct, eq_i, ne_i, eq_s, ne_s, fzn_1, fzn_2, fzn_3, fzn_4, fzn_5, fzn_6, fzn_7, fzn_8, fzn_9, fzn_s, fznL_n, fznL_c, fznK_n, fznK_c, fznF_n, fznF_c, sz0, sz1, sz2, sz3, sz4, sz5, sz6, sz7, sz8, pk1, pk2, pk3, pk4, fzL_n, fzL_c, fz_int, fz_bl, fz_str, fz_non, putD_n, putD_c, at0, at1, at2, at3, ix0, ix1, ix2, Bool.not_true, Bool.not_false, Bool.true_and, Bool.and_true, Bool.false_and, Bool.and_false, Bool.or_true, Bool.true_or, Bool.false_or, Bool.or_false, if_true, if_false, Bool.false_eq_true, decide_true, decide_false, and_self, and_true, true_and, not_true_eq_false, not_false_eq_true, ne_eq, false_and, and_false, eq_self, v_parN, po2, po3, po4, se_n, se_c, v_gUL, v_dnew, fi2_i, gdiv_i, gadd_i])
theorem isdec_spec {x : Int} : m_is_integer_decoding [.int x] = .ok (.bl true) [] := by
  unfold m_is_integer_decoding b_is_integer_decoding
  rw [v_fn]
  walk_at "ew"
theorem len_cd {code : List Nat} : fLen [cd code] = some (.int code.length) := by
  unfold cd
  rw [len_t]
  simp
theorem at_cd {code : List Nat} {k b : Nat} (h : code[k]? = some b) : fIx (cd code) (.int (k : Int)) = some (.int b) := by
  unfold cd
  rw [ix_t]
  refine atI_nat ?_
  rw [List.getElem?_map, h]
  rfl
theorem check_spec {code : List Nat} {en : Nat} (h : en ≤ code.length) : m_check_entry [cd code, .int en] = .ok .non [] := by
  have h1 := isdec_spec (x := en)
  have h2 := len_cd (code := code)
  have h3 : (0 : Int) ≤ (en : Int) := by omega
  have h4 : (en : Int) ≤ (code.length : Int) := by omega
  clear h
  unfold m_check_entry b_check_entry
  rw [v_fn]
  walk_at "ew"
theorem drop_get {code : List Nat} {en a b : Nat} (ha : en ≤ a) (h : code[a]? = some b) : (code.drop en)[a - en]? = some b := by
  rw [List.getElem?_drop, show en + (a - en) = a by omega, h]
theorem cdat_spec {c L : Nat} {rs : List Row} {code : List Nat} {en ofs : Nat} (h : TabOk c L rs) (h1 : en ≤ ofs) (h2 : ofs ≤ code.length) : m_countdown_at [machD false c rs, cd code, .int en, .int ofs] = .ok (oI (stt rs (code.drop en) (ofs - en))) [] := by
  have zc := @fzn_cd
  have hz := fzn_mach (c := c) (rs := rs)
  have hr := recv_mach (o := false) (c := c) (rs := rs) (m := "length_at") (by decide) (by decide) (by decide)
  have hlen := @length_at_spec c false rs
  have lc := len_cd (code := code)
  generalize hbs : code.drop en = bs
  have hbl : bs.length = code.length - en := by rw [← hbs, List.length_drop]
  obtain ⟨fl, e', w1, w2⟩ := while_invR (c := bB (e2 fLt (eV 4) (eV 3))) (m := lb_countdown_at_1)
    (fun env => ∃ (a : Nat) (x5 : Option D), env = [some (machD false c rs), some (cd code), some (.int en), some (.int ofs), some (.int a), x5] ∧ en ≤ a ∧ ((a ≤ ofs ∧ stt rs bs (a - en) = some 0) ∨ (ofs < a ∧ stt rs bs (ofs - en) = some (a - ofs))))
    (fun fl e => (∃ (a : Nat) (x5 : Option D), fl = .nx ∧ e = [some (machD false c rs), some (cd code), some (.int en), some (.int ofs), some (.int a), x5] ∧ ofs ≤ a ∧ stt rs bs (ofs - en) = some (a - ofs)) ∨ (fl = .rt .non ∧ stt rs bs (ofs - en) = none))
    (fun env : Env => match env[4]? with | some (some (D.int i)) => ofs - i.toNat | _ => 0) (by
      rintro _ ⟨a, x5, rfl, g1, g2⟩
      by_cases hlt : a < ofs
      · have hlt' : (a : Int) < (ofs : Int) := by omega
        have ga : stt rs bs (a - en) = some 0 := by rcases g2 with g | g; exact g.2; omega
        have hal : a < code.length := by omega
        have hb := List.getElem?_eq_getElem hal
        generalize code[a] = b at hb
        have hib := at_cd hb
        have hdb : bs[a - en]? = some b := by rw [← hbs]; exact drop_get g1 hb
        by_cases gz : lenAt rs b = 0
        · right; right
          have hl := hlen (b := b)
          rw [gz] at hl
          refine ⟨[some (machD false c rs), some (cd code), some (.int en), some (.int ofs), some (.int a), x5], .non, [some (machD false c rs), some (cd code), some (.int en), some (.int ofs), some (.int a), some (.int 0)], ?_, ?_, .inr ⟨rfl, stt_none (stt_stop ga hdb gz) (by omega)⟩⟩
          · clear hlen hl hib hdb gz hb ga g2 hbs hbl h
            walk_at "ew"
          · have e0 : ((0 : Nat) : Int) = 0 := rfl
            clear hlen hdb gz hb ga g2 hbs hbl h hlt'
            unfold lb_countdown_at_1
            walk_at "ew"
        · left
          have hl := hlen (b := b)
          have run := stt_run ga hdb gz
          refine ⟨[some (machD false c rs), some (cd code), some (.int en), some (.int ofs), some (.int a), x5], [some (machD false c rs), some (cd code), some (.int en), some (.int ofs), some (.int (a + lenAt rs b : Nat)), some (.int (lenAt rs b))], ?_, .inl ?_, ⟨a + lenAt rs b, _, rfl, by omega, ?_⟩, ?_⟩
          · clear hlen hl hib hdb gz hb ga g2 hbs hbl h run
            walk_at "ew"
          · have e0 : ¬ (lenAt rs b : Int) = 0 := by omega
            have e1 : (a : Int) + (lenAt rs b : Int) = ((a + lenAt rs b : Nat) : Int) := by omega
            clear hlen hdb gz hb ga g2 hbs hbl h run hlt'
            unfold lb_countdown_at_1
            walk_at "ew"
          · by_cases hle : a + lenAt rs b ≤ ofs
            · left
              refine ⟨hle, ?_⟩
              have := run (lenAt rs b) (by omega) (Nat.le_refl _) (by omega)
              rw [Nat.sub_self] at this
              rw [show a + lenAt rs b - en = a - en + lenAt rs b by omega]
              exact this
            · right
              refine ⟨by omega, ?_⟩
              have := run (ofs - a) (by omega) (by omega) (by omega)
              rw [show ofs - en = a - en + (ofs - a) by omega, this]
              congr 1
              omega
          · show ofs - (((a + lenAt rs b : Nat) : Int)).toNat < ofs - ((a : Int)).toNat
            omega
      · right; left
        have hlt' : ¬ (a : Int) < (ofs : Int) := by omega
        refine ⟨[some (machD false c rs), some (cd code), some (.int en), some (.int ofs), some (.int a), x5], ?_, .inl ⟨a, x5, rfl, rfl, by omega, ?_⟩⟩
        · clear hlen g2 hbs hbl h
          walk_at "ew"
        · rcases g2 with g | g
          · rw [show ofs = a by omega, g.2, Nat.sub_self]
          · exact g.2) (env := [some (machD false c rs), some (cd code), some (.int en), some (.int ofs), some (.int en), none]) ⟨en, none, rfl, Nat.le_refl _, .inl ⟨h1, by rw [Nat.sub_self, stt_zero]⟩⟩
  have hlp : lp_countdown_at_1 [some (machD false c rs), some (cd code), some (.int en), some (.int ofs), some (.int en), none] = .ok fl e' := w1
  have hch := check_spec (code := code) (en := en) (by omega)
  have hd := isdec_spec (x := ofs)
  have i1 : (en : Int) ≤ (ofs : Int) := by omega
  have i2 : (ofs : Int) ≤ (code.length : Int) := by omega
  clear w1 hlen hr h h1 h2 hbl
  unfold m_countdown_at b_countdown_at
  rw [v_fn]
  walk_at "env"
  refine fin_seq (e := [some (machD false c rs), some (cd code), some (.int en), some (.int ofs), none, none]) ?_ ?_
  · clear hlp w2
    walk_at "ew"
  refine fin_seq (e := [some (machD false c rs), some (cd code), some (.int en), some (.int ofs), none, none]) ?_ ?_
  · clear hlp w2
    walk_at "ew"
  refine fin_seq (e := [some (machD false c rs), some (cd code), some (.int en), some (.int ofs), some (.int en), none]) ?_ ?_
  · clear hlp w2
    walk_at "ew"
  rcases w2 with ⟨a, x5, rfl, rfl, h3, h4⟩ | ⟨rfl, h4⟩
  · refine fin_seq hlp ?_
    rw [h4]
    have e : (a : Int) - (ofs : Int) = ((a - ofs : Nat) : Int) := by omega
    clear hlp h4 hbs
    unfold oI
    walk_at "ew"
  · refine fin_ret hlp ?_
    rw [h4]
    clear hlp h4 hbs
    unfold oI
    walk_at "ew"
end Mi

set_option maxHeartbeats 4000000
namespace Mi
open PySem PySem.Spec PyProof.Rows L2 RZ Ov PpSet
/-! ### dict(pairs) -/
def pairsD : List D → Option (List (D × D))
  | [] => some []
  | .tup [k, d] :: r => match keyD k, pairsD r with
    | some _, some kvs => some ((k, d) :: kvs)
    | _, _ => none
  | _ => none
def mergeD (acc kvs : List (D × D)) : List (D × D) := kvs.foldl (fun acc kv => putKD acc kv.1 kv.2) acc
def fDict : List D → Option D
  | [.lst _ ds] => (pairsD ds).map fun kvs => .dct true (mergeD [] kvs)
  | _ => none
def rDictP (K : PySem.W.Frag) : List V → Hp → VK → Prop := fun xs H Q => ∃ (a : Addr) (ps : List Addr) (kvs : List (Key × V)), xs = [.ref a] ∧ SqL K H a (ps.map V.ref) ∧ Paired (fun p kv => SqT K H p [kV kv.1, kv.2]) ps kvs ∧
    ∀ p, H p = none → Q (.ref p) (upd H p (.dK (mergeK [] kvs)))
section
variable {C : Ct} {Z H : Hp} {F : List Addr}
theorem pairs_rd (zh : Same Z H) : ∀ {ds : List D} {vs : List V} {G : List Addr} {kvs : List (D × D)}, RdL C Z H ds vs G → pairsD ds = some kvs →
    ∃ (ps : List Addr) (us : List (Key × V)), vs = ps.map V.ref ∧ Paired (fun p kv => SqT C.K H p [kV kv.1, kv.2]) ps us ∧ RdK C Z H kvs us []
  | [], _, _, kvs, h, e => by
    rw [RdL] at h
    cases e
    exact ⟨[], [], h.1, .nil, by rw [RdK]; exact ⟨rfl, rfl⟩⟩
  | d :: r, _, _, kvs, h, e => by
    rw [RdL] at h
    obtain ⟨v, s, F1, F2, rfl, _, h1, h2⟩ := h
    unfold pairsD at e
    split at e
    · cases ‹_ :: _ = []›
    · rename_i k d' r' he
      cases he
      split at e
      · rename_i q kvs' hk hp
        cases e
        obtain ⟨ps, us, rfl, pp, rk⟩ := pairs_rd zh h2 hp
        obtain ⟨_, a, vs2, rfl, h3, h4⟩ := h1.tupP zh
        rw [RdL] at h4
        obtain ⟨x, s, G1, G2, rfl, e1, h5, h4⟩ := h4
        rw [RdL] at h4
        obtain ⟨y, s, G3, G4, rfl, e2, h6, h4⟩ := h4
        rw [RdL] at h4
        obtain ⟨rfl, rfl⟩ := h4
        have := h5.key hk
        subst this
        have hG : G1 = [] ∧ G2 = [] := List.append_eq_nil_iff.mp e1.symm
        rw [hG.2] at e2
        have hG3 : G3 = [] := (List.append_eq_nil_iff.mp e2.symm).1
        subst hG3
        refine ⟨a :: ps, (q, y) :: us, rfl, .cons h3 pp, ?_⟩
        rw [RdK]
        exact ⟨q, y, us, [], [], rfl, rfl, kD_key hk, h6, rk⟩
      · cases e
    · cases e
theorem merge_rd : ∀ {kvs : List (D × D)} {us : List (Key × V)} {acc : List (D × D)} {aus : List (Key × V)}, RdK C Z H kvs us [] → RdK C Z H acc aus [] → RdK C Z H (mergeD acc kvs) (mergeK aus us) []
  | [], _, acc, aus, h, ha => by
    rw [RdK] at h
    rw [h.1]
    exact ha
  | (k, d) :: r, _, acc, aus, h, ha => by
    rw [RdK] at h
    obtain ⟨q, v, s, F1, F2, rfl, e, rfl, h1, h2⟩ := h
    have hF := List.append_eq_nil_iff.mp e.symm
    obtain ⟨rfl, rfl⟩ := hF
    obtain ⟨F', s1, r1⟩ := RdK.put0 (k := q) h1 ha
    have : F' = [] := by simpa using s1
    subst this
    show RdK C Z H (mergeD (putKD acc (kD q) d) r) (mergeK (putK aus q v) s) []
    exact merge_rd h2 r1
theorem f_dict : FnL C (rDictP C.K) fDict := by
  intro ds vs Z H F Q e o ra hf p
  unfold fDict at hf
  split at hf
  · rw [Option.map_eq_some_iff] at hf
    obtain ⟨kvs, h, rfl⟩ := hf
    obtain ⟨v, F1, rfl, hd⟩ := ra.one
    obtain ⟨a, us, G, rfl, h1, h2⟩ := hd.lstD o.zh rfl
    obtain ⟨ps, kus, rfl, pp, rk⟩ := pairs_rd o.zh h2 h
    refine ⟨a, ps, kus, rfl, h1, pp, fun q hq => ?_⟩
    refine p (.ref q) Z _ [q] (Ext.new o hq) ?_ (same_new hq)
    rw [RdV]
    refine ⟨q, _, [], rfl, upd_same, rfl, ?_⟩
    have := merge_rd (acc := []) (aus := []) rk (by rw [RdK]; exact ⟨rfl, rfl⟩)
    exact RdK.mono (Same.refl _) _ _ [] (fun a ha => by cases ha) this
  · cases hf
theorem o_dict {X : Cx} (K : PySem.W.Frag) (hc : X.calm = true := by rfl) (h : X.K = K := by rfl) : CallR X (.type "dict") (rDictP K) := h ▸ call_dictP hc
end
/-! ### keywords -/
def gK {α : Type} (z : α) (pi : List Nat) (n : Nat) : List α → List α → List α
  | [], ws => if ws.length = n then pi.map (fun i => ws.getD i z) else []
  | _ :: _, _ => []
theorem gK_nil {α : Type} {z : α} {pi : List Nat} {n : Nat} {ws : List α} : gK z pi n [] ws = if ws.length = n then pi.map (fun i => ws.getD i z) else [] := rfl
theorem gK_len {α : Type} {z : α} {pi : List Nat} {n m : Nat} {us ws : List α} (h : (gK z pi n us ws).length = m) (hm : 0 < m) : us = [] ∧ ws.length = n := by
  cases us with
  | nil =>
    by_cases q : ws.length = n
    · exact ⟨rfl, q⟩
    · rw [gK_nil, if_neg q] at h
      simp only [List.length_nil] at h
      omega
  | cons a b =>
    unfold gK at h
    simp only [List.length_nil] at h
    omega
theorem vals_get {i : Nat} : ∀ {zs : List V} {ws : List Value}, Vals zs ws → RelV (zs.getD i .non) (ws.getD i .none)
  | _, _, .nil => by cases i <;> exact rfl
  | _, _, .cons h t => by
    cases i with
    | zero => exact h
    | succ i => exact vals_get (i := i) t
theorem vals_map {zs : List V} {ws : List Value} (h : Vals zs ws) : ∀ pi : List Nat, Vals (pi.map fun i => zs.getD i .non) (pi.map fun i => ws.getD i .none)
  | [] => .nil
  | i :: pi => .cons (vals_get h) (vals_map h pi)
theorem vals_len : ∀ {zs : List V} {ws : List Value}, Vals zs ws → zs.length = ws.length
  | _, _, .nil => rfl
  | _, _, .cons _ t => by rw [List.length_cons, List.length_cons, vals_len t]
theorem gK_rel {pi : List Nat} {n : Nat} {vs : List V} {us : List Value} {zs : List V} {ws : List Value} (h : Vals vs us) (h2 : Vals zs ws) : Vals (gK .non pi n vs zs) (gK .none pi n us ws) := by
  cases h with
  | nil =>
    rw [gK_nil, gK_nil, vals_len h2]
    by_cases q : ws.length = n
    · rw [if_pos q, if_pos q]
      exact vals_map h2 pi
    · rw [if_neg q, if_neg q]
      exact .nil
  | cons _ _ => exact .nil
/-- f(k = e, ..): the arguments in the order of pi -/
def fKw (pi : List Nat) (n : Nat) (f : Fun) : Fun := fun ds => if fznL ds && decide (ds.length = n) then f (pi.map fun i => ds.getD i .non) else .no
theorem rdL_get {C : Ct} {Z H : Hp} {i : Nat} : ∀ {ds : List D} {vs : List V}, RdL C Z H ds vs [] → RdV C Z H (ds.getD i .non) (vs.getD i .non) []
  | [], vs, h => by
    rw [RdL] at h
    rw [h.1]
    simp [RdV]
  | d :: ds, vs, h => by
    rw [RdL] at h
    obtain ⟨v, s, F1, F2, rfl, e, h1, h2⟩ := h
    obtain ⟨rfl, rfl⟩ := List.append_eq_nil_iff.mp e.symm
    cases i with
    | zero => exact h1
    | succ i => exact rdL_get (i := i) h2
theorem rdL_map {C : Ct} {Z H : Hp} {ds : List D} {vs : List V} (h : RdL C Z H ds vs []) : ∀ pi : List Nat, RdL C Z H (pi.map fun i => ds.getD i .non) (pi.map fun i => vs.getD i .non) []
  | [] => RdL.nil0
  | i :: pi => RdL.cons0 (rdL_get h) (rdL_map h pi)
theorem pick_no {α : Type} : ∀ {n : Nat} {vs : List α}, pick (List.replicate n false) vs = []
  | 0, vs => by cases vs <;> rfl
  | n + 1, [] => rfl
  | n + 1, v :: vs => by rw [List.replicate_succ, pick]; exact pick_no
theorem rdL_len {C : Ct} {Z H : Hp} : ∀ {ds : List D} {vs : List V} {F : List Addr}, RdL C Z H ds vs F → ds.length = vs.length
  | [], vs, F, h => by rw [RdL] at h; rw [h.1]; rfl
  | d :: ds, vs, F, h => by
    rw [RdL] at h
    obtain ⟨v, s, F1, F2, rfl, e, h1, h2⟩ := h
    rw [List.length_cons, List.length_cons, rdL_len h2]
theorem spM_kw {C : Ct} {xc : Bool} {f : Fun} {vs : List V} {H : Hp} {Q : VK} {E : XK} {pi : List Nat} {n : Nat} (hp : pi.length = n) (h : spM C xc (List.replicate n false) (fKw pi n f) vs H Q E) : spM C xc (List.replicate n false) f (gK .non pi n [] vs) H Q E := by
  obtain ⟨ds, Z, F, hl, rl, ok, m⟩ := h
  unfold fKw at m
  by_cases hz : (fznL ds && decide (ds.length = n)) = true
  · rw [if_pos hz] at m
    rw [Bool.and_eq_true, decide_eq_true_eq] at hz
    have := RdL.fznL ds vs F hz.1 rl
    subst this
    have hv : vs.length = n := by rw [hl, List.length_replicate]
    have e : gK V.non pi n [] vs = pi.map fun i => vs.getD i .non := by rw [gK_nil, if_pos hv]
    rw [e]
    refine ⟨_, Z, [], by rw [List.length_map, hp, List.length_replicate], rdL_map rl pi, ok, ?_⟩
    rw [pick_no] at m ⊢
    exact m
  · rw [if_neg hz] at m
    exact m.elim
section
variable {X : Cx} {N : Cn} {st : Bool}
def QK (X : Cx) (N : Cn) (st : Bool) (kws : List Keyword) (as : List Arg) : Prop := ∃ t, PK X kws t ∧ RefM N st t as
theorem qk_nil : QK X N true [] [] := ⟨_, pk_nil, rm_nil⟩
theorem qk_e {s1 s2 : Bool} {e : Expr} {m : ME} {kws : List Keyword} {as : List Arg} {nm : Option Str} {kp : Pos} (ha : QE X N s1 e m) (hs : QK X N s2 kws as) : QK X N (s1 && s2) (⟨nm, e, kp⟩ :: kws) (.e m :: as) := let ⟨_, p, q⟩ := ha; let ⟨_, p', q'⟩ := hs; ⟨_, pk_cons p p', rm_e q q'⟩
theorem re_callK {xc : Bool} {f : Fun} {as : List Arg} {t : TA} {E : XK} {io : List Bool} {pi : List Nat} {n : Nat} (h : RefM N st t as) (hp : pi.length = n) (hio : ioOf as = io) (hn : io = List.replicate n false) (hx : ∀ σ, WE' N xc σ E) : RefE N false (tCallK (spM N.C xc io f) (gK .non pi n) E tNil t) (eCall (fKw pi n f) as) := fun env σ Z H F Q o r w => by
  subst hio
  show t σ H fun zs H2 => spM N.C xc (ioOf as) f (gK .non pi n [] zs) H2 Q E
  refine h env σ Z H F _ o r (w.bind.mono (Pin.refl _ _) (Ext.refl o) ?_)
  intro ms env1 k vs Z1 H1 Fv F1 x rm r1 _
  have := call_core (hx σ) x rm r1 k
  rw [hn] at this ⊢
  exact spM_kw hp this
theorem q_callK {k j : Nat} {x : Str} {ps ks : List Str} {io : List Bool} {f : Fun} {xc : Bool} {p pos : Pos} {kws : List Keyword} {as : List Arg} {pi : List Nat} {n : Nat} (cl : CalK X.prog X.w X.K X.mg X.base CX0 k x ps ks (gK .none pi n) (gK .non pi n) (spM N.C xc io f)) (hr : Rm j X.A) (ha : QK X N st kws as) (hp : pi.length = n := by rfl) (hio : ioOf as = io := by rfl) (hn : io = List.replicate n false := by rfl) (hpx : N.px = none := by rfl) (hk : k ≤ j := by decide) (hg : Gl X x := by rfl)
    (hall : (backToKw pos (keywordEach kws X.env)).all (·.1.isSome) = true := by rfl)
    (hks : (backToKw pos (keywordEach kws X.env)).filterMap (·.1) = ks := by rfl) (hdb : (x == ("__debug__" : Str)) = false := by decide)
    (hpl : ((backTo pos (starEach [] X.env)).any (·.1) || (backToKw pos (keywordEach kws X.env)).any (·.1.isNone)) = false := by rfl) :
    QE X N false (.Call (.Name x p) [] kws pos) (eCall (fKw pi n f) as) := by
  obtain ⟨t, p', q⟩ := ha
  exact ⟨_, pck cl hr p' hk hg hall hks hdb hpl, re_callK q hp hio hn (we_none hpx)⟩
end
end Mi

set_option maxHeartbeats 4000000
set_option exponentiation.threshold 100000
namespace Mi
open PySem PySem.Spec PyProof.Rows L2 RZ Ov PpSet
local macro_rules | `(tactic| walk_at "ev") => `(tactic| simp -dsimp only [*, b_bo, b_b0, v_bo, v_b0, v_c, v_v, v_mv, v_vk, v_k, v_fk, v_nil, v_cons, v_1, v_2, v_L, v_bB, asB_b, v_bAnd, v_bOr, v_bNot, v_bYes, v_if, v_and, v_or, v_not, v_tup, v_lst, v_fld, asI_i, v_oN, v_oS, optI_i, v_sl, v_rg1, v_rg2, v_lrg, v_trg, chainK_b, v_chain,
  Fl.k_nx, Fl.k_rt, Fl.k_bk, Fl.k_ct, v_seq, v_pass, v_bk, v_ct, v_ret, v_retN, v_expr, v_sif, v_asg, optE_s, v_gN, v_gT, v_gsN, v_gsC, Option.bind_some, v_par, v_par3, v_aug, v_put, v_sfld, v_for, optL_s, v_iSeq, v_iOf, v_iStr, v_lc, v_mList, Rf.back_ok, optP_s, v_callF, v_call, v_aN, v_aE, v_aI, v_fN, v_fE, v_fI, optD_s, Option.map_some,
  v_kN, v_kE, v_kI, v_methE, v_methI, Rf.newB_ok, v_new, fin_rt, fin_nx, getR_s, liftK_s, R.ite_t, R.ite_f, List.getElem?_cons_zero, List.getElem?_cons_succ, List.set_cons_zero, List.set_cons_succ, List.map_cons, List.map_nil, List.cons_append, List.nil_append, List.replicate_succ, List.replicate_zero, k2_s, k3_s, insK_s, strK_s, mlK_s, optF_s, joinO_s, v_gp, v_gq, fldO_s, v_gf, setO_s, v_gs, optR_s, al_n, al_c, pi_t, pi_f, pi_n, wi_n, wi_c,
  add_i, sub_i, mod_i, div_i, pow_60, pow_18, lt_i, le_i, gt_i, ge_i, mul_i, is_n, nis_n, is_i, nis_i, is_t, nis_t, ix_t, ix_l, ix_s, set0, set1, set2, len_t, len_l, len_s, abs_i, int_i, int_b, sl_l, sl_t, fz_l, fz_t, fz_d, fz_i, seq_t, seq_l, zip_l, zip_t, enum_l, tuple_l, tuple_t, list_l, list_t, neg_i, isa_isInt_non, isa_isInt_bl, isa_isInt_int, isa_isInt_str, isa_isInt_tup, isa_isInt_lst, isa_isInt_scr, isa_isInt_dct, isa_isBool_non, isa_isBool_bl, isa_isBool_int, isa_isBool_str, isa_isBool_tup, isa_isBool_lst, isa_isBool_scr, isa_isBool_dct, isa_isStr_non, isa_isStr_bl, isa_isStr_int, isa_isStr_str, isa_isStr_tup, isa_isStr_lst, isa_isStr_scr, isa_isStr_dct, isa_isTuple_non, isa_isTuple_bl, isa_isTuple_int, isa_isTuple_str, isa_isTuple_tup, isa_isTuple_lst, isa_isTuple_scr, isa_isTuple_dct, isa_isList_non, isa_isList_bl, isa_isList_int, isa_isList_str, isa_isList_tup, isa_isList_lst, isa_isList_scr, isa_isList_dct, isa_isDict_non, isa_isDict_bl, isa_isDict_int, isa_isDict_str, isa_isDict_tup, isa_isDict_lst, isa_isDict_scr, isa_isDict_dct, eq_i, ne_i, eq_s, ne_s, fzn_1, fzn_2, fzn_3, fzn_4, fzn_5, fzn_6, fzn_7, fzn_8, fzn_9, fzn_s, fznL_n, fznL_c, fznK_n, fznK_c, fznF_n, fznF_c, sz0, sz1, sz2, sz3, sz4, sz5, sz6, sz7, sz8, pk1, pk2, pk3, pk4, fzL_n, fzL_c, fz_int, fz_bl, fz_str, fz_non, putD_n, putD_c, at0, at1, at2, at3, ix0, ix1, ix2, Bool.not_true, Bool.not_false, Bool.true_and, Bool.and_true, Bool.false_and, Bool.and_false, Bool.or_true, Bool.true_or, Bool.false_or, Bool.or_false, if_true, if_false, Bool.false_eq_true, decide_true, decide_false, and_self, and_true, true_and, not_true_eq_false, not_false_eq_true, ne_eq, false_and, and_false, eq_self])
local macro_rules | `(tactic| walk_at "env") => `(tactic| simp only [List.map_cons, List.map_nil, List.cons_append, List.nil_append, List.replicate_succ, List.replicate_zero])
local macro_rules | `(tactic| walk_at "ew") => `(tactic| simp -dsimp only [*, b_bo, b_b0, v_bo, v_b0, v_c, v_v, v_mv, v_vk, v_k, v_fk, v_nil, v_cons, v_1, v_2, v_L, v_bB, asB_b, v_bAnd, v_bOr, v_bNot, v_bYes, v_if, v_and, v_or, v_not, v_tup, v_lst, v_fld, asI_i, v_oN, v_oS, optI_i, v_sl, v_rg1, v_rg2, v_lrg, v_trg, chainK_b, v_chain,
  Fl.k_nx, Fl.k_rt, Fl.k_bk, Fl.k_ct, v_seq, v_pass, v_bk, v_ct, v_ret, v_retN, v_expr, v_sif, v_asg, optE_s, v_gN, v_gT, v_gsN, v_gsC, Option.bind_some, v_par, v_par3, v_aug, v_put, v_sfld, v_for, optL_s, v_iSeq, v_iOf, v_iStr, v_lc, v_mList, Rf.back_ok, optP_s, v_callF, v_call, v_aN, v_aE, v_aI, v_fN, v_fE, v_fI, optD_s, Option.map_some,
  v_kN, v_kE, v_kI, v_methE, v_methI, Rf.newB_ok, v_new, fin_rt, fin_nx, getR_s, liftK_s, R.ite_t, R.ite_f, List.getElem?_cons_zero, List.getElem?_cons_succ, List.set_cons_zero, List.set_cons_succ, List.map_cons, List.map_nil, List.cons_append, List.nil_append, List.replicate_succ, List.replicate_zero, k2_s, k3_s, insK_s, strK_s, mlK_s, optF_s, joinO_s, v_gp, v_gq, fldO_s, v_gf, setO_s, v_gs, optR_s, al_n, al_c, pi_t, pi_f, pi_n, wi_n, wi_c,
  add_i, sub_i, mod_i, div_i, pow_60, pow_18, lt_i, le_i, gt_i, ge_i, mul_i, is_n, nis_n, is_i, nis_i, is_t, nis_t, ix_t, ix_l, ix_s, set0, set1, set2, len_t, len_l, len_s, abs_i, int_i, int_b, sl_l, sl_t, fz_l, fz_t, fz_d, fz_i, seq_t, seq_l, zip_l, zip_t, enum_l, tuple_l, tuple_t, list_l, list_t, neg_i, isa_isInt_non, isa_isInt_bl, isa_isInt_int, isa_isInt_str, isa_isInt_tup, isa_isInt_lst, isa_isInt_scr, isa_isInt_dct, isa_isBool_non, isa_isBool_bl, isa_isBool_int, isa_isBool_str, isa_isBool_tup, isa_isBool_lst, isa_isBool_scr, isa_isBool_dct, isa_isStr_non, isa_isStr_bl, isa_isStr_int, isa_isStr_str, isa_isStr_tup, isa_isStr_lst, isa_isStr_scr, isa_isStr_dct, isa_isTuple_non, isa_isTuple_bl, isa_isTuple_int, isa_isTuple_str, isa_isTuple_tup, isa_isTuple_lst, isa_isTuple_scr, isa_isTuple_dct, isa_isList_non, isa_isList_bl, isa_isList_int, isa_isList_str, isa_isList_tup, isa_isList_lst, isa_isList_scr, isa_isList_dct, isa_isDict_non, isa_isDict_bl, isa_isDict_int, isa_isDict_str, isa_isDict_tup, isa_isDict_lst, isa_isDict_scr, isa_isDict_dct, eq_i, ne_i, eq_s, ne_s, fzn_1, fzn_2, fzn_3, fzn_4, fzn_5, fzn_6, fzn_7, fzn_8, fzn_9, fzn_s, fznL_n, fznL_c, fznK_n, fznK_c, fznF_n, fznF_c, sz0, sz1, sz2, sz3, sz4, sz5, sz6, sz7, sz8, pk1, pk2, pk3, pk4, fzL_n, fzL_c, fz_int, fz_bl, fz_str, fz_non, putD_n, putD_c, at0, at1, at2, at3, ix0, ix1, ix2, Bool.not_true, Bool.not_false, Bool.true_and, Bool.and_true, Bool.false_and, Bool.and_false, Bool.or_true, Bool.true_or, Bool.false_or, Bool.or_false, if_true, if_false, Bool.false_eq_true, decide_true, decide_false, and_self, and_true, true_and, not_true_eq_false, not_false_eq_true, ne_eq, false_and, and_false, eq_self, v_parN, po2, po3, po4, se_n, se_c, v_gUL, v_dnew, fi2_i, gdiv_i, gadd_i])
/-! ### repr by parts -/
structure Rp (n w : Nat) (d : D) : Prop where
  ex : ∃ p, toPy d = some p ∧ plainD n p = true ∧ p.showable = true ∧ wt p ≤ w
structure RpL (n w : Nat) (ds : List D) : Prop where
  ex : ∃ ps, toPyL ds = some ps ∧ plainA n ps = true ∧ PyData.showableAll ps = true ∧ wtA ps ≤ w
theorem Rp.le {n w w' : Nat} {d : D} (h : Rp n w d) (hw : w ≤ w') : Rp n w' d := by
  obtain ⟨p, h1, h2, h3, h4⟩ := h.ex
  exact ⟨p, h1, h2, h3, by omega⟩
theorem RpL.le {n w w' : Nat} {d : List D} (h : RpL n w d) (hw : w ≤ w') : RpL n w' d := by
  obtain ⟨p, h1, h2, h3, h4⟩ := h.ex
  exact ⟨p, h1, h2, h3, by omega⟩
theorem rp_int {n : Nat} {i : Int} (h : i.natAbs < 2 ^ 1000) : Rp n 1 (.int i) := ⟨.int i, by rw [toPy], plain_int, show_int h, by simp only [wt]; exact Nat.le_refl _⟩
theorem rp_nat {n i : Nat} (h : i < 2 ^ 100) : Rp n 1 (.int (i : Int)) := rp_int (Nat.lt_trans (by simpa using h) (by decide))
theorem rp_str {n : Nat} {x : Str} (h : PyData.strOk x = true) : Rp n (1 + x.length) (.str x) := ⟨.str x, by rw [toPy], by cases n <;> exact h, rfl, by simp only [wt]; exact Nat.le_refl _⟩
theorem rp_non {n : Nat} : Rp n 1 .non := ⟨.none, by rw [toPy], by cases n <;> rfl, rfl, by simp only [wt]; exact Nat.le_refl _⟩
theorem rp_bl {n : Nat} {b : Bool} : Rp n 1 (.bl b) := ⟨.bool b, by rw [toPy], by cases n <;> rfl, rfl, by simp only [wt]; exact Nat.le_refl _⟩
theorem rpl_nil {n : Nat} : RpL n 0 [] := ⟨[], by rw [toPyL], by rw [plainA], rfl, by simp only [wtA]; exact Nat.le_refl _⟩
theorem rpl_cons {n a b : Nat} {d : D} {ds : List D} (h : Rp n a d) (t : RpL n b ds) : RpL n (a + b) (d :: ds) := by
  obtain ⟨p, h1, h2, h3, h4⟩ := h.ex
  obtain ⟨q, k1, k2, k3, k4⟩ := t.ex
  refine ⟨p :: q, by rw [toPyL, h1, k1]; rfl, by rw [plainA, h2, k2]; rfl, by simp only [PyData.showableAll, h3, k3]; rfl, ?_⟩
  simp only [wtA]
  omega
theorem rpl_all {n k : Nat} : ∀ {ds : List D}, (∀ d ∈ ds, Rp n k d) → RpL n (k * ds.length) ds
  | [], _ => rpl_nil
  | d :: ds, h => by
    have h1 := rpl_cons (h d (List.mem_cons_self ..)) (rpl_all fun x hx => h x (List.mem_cons_of_mem _ hx))
    exact h1.le (by rw [List.length_cons, Nat.mul_add, Nat.mul_one]; omega)
theorem rp_tup {n w : Nat} {ds : List D} (h : RpL n w ds) : Rp (n + 1) (1 + w) (.tup ds) := by
  obtain ⟨q, k1, k2, k3, k4⟩ := h.ex
  exact ⟨.tuple q, by rw [toPy, k1]; rfl, by rw [plainD]; exact k2, k3, by simp only [wt]; omega⟩
theorem rp_lst {n w : Nat} {o : Bool} {ds : List D} (h : RpL n w ds) : Rp (n + 1) (1 + w) (.lst o ds) := by
  obtain ⟨q, k1, k2, k3, k4⟩ := h.ex
  exact ⟨.list q, by rw [toPy, k1]; rfl, by rw [plainD]; exact k2, k3, by simp only [wt]; omega⟩
theorem Rp.repr {n w : Nat} {d : D} (h : Rp n w d) (hn : n ≤ 60) (hw : w ≤ 8000) : ∃ x, fRepr [d] = some (.str x) := by
  obtain ⟨p, h1, h2, h3, h4⟩ := h.ex
  exact ⟨_, repr_ok h1 h2 hn h3 (by omega)⟩
theorem rp_cd {n : Nat} {code : List Nat} (h : ∀ b ∈ code, b < 2 ^ 100) : Rp (n + 1) (1 + code.length) (cd code) := by
  have := rpl_all (n := n) (k := 1) (ds := code.map fun x : Nat => D.int x) fun d hd => by
    obtain ⟨b, hb, rfl⟩ := List.mem_map.mp hd
    exact rp_nat (h b hb)
  exact (rp_tup this).le (by rw [List.length_map]; omega)
/-! ### loops that may return -/
theorem for_invR {g : MG} {m : MS} (Post : D → Prop) : ∀ (ds : List D) (Iv : Nat → Env → Prop), (∀ i d env, ds[i]? = some d → Iv i env → ∃ e, g d env = some e ∧ ((∃ e', (m e = .ok .nx e' ∨ m e = .ok .ct e') ∧ Iv (i + 1) e') ∨ ∃ r e', m e = .ok (.rt r) e' ∧ Post r)) →
    ∀ {env : Env}, Iv 0 env → (∃ e', forL g m ds env = .ok .nx e' ∧ Iv ds.length e') ∨ ∃ r e', forL g m ds env = .ok (.rt r) e' ∧ Post r
  | [], Iv, _, env, h0 => .inl ⟨env, rfl, h0⟩
  | d :: ds, Iv, h, env, h0 => by
    obtain ⟨e, h1, h2⟩ := h 0 d env rfl h0
    rcases h2 with ⟨e', h2, h3⟩ | ⟨r, e', h2, h3⟩
    · have hs : forL g m (d :: ds) env = forL g m ds e' := by
        rw [forL, h1]
        rcases h2 with h2 | h2
        · simp only [h2, v_bo]
        · simp only [h2, v_bo]
      rw [hs]
      rcases for_invR Post ds (fun i => Iv (i + 1)) (fun i d env hd hi => h (i + 1) d env hd hi) h3 with ⟨e2, k1, k2⟩ | k
      · exact .inl ⟨e2, k1, k2⟩
      · exact .inr k
    · exact .inr ⟨r, e', for_ret h1 h2, h3⟩
theorem seq_ret {s r : MS} {env e : Env} {d : D} (h : s env = .ok (.rt d) e) : sSeq s r env = .ok (.rt d) e := by
  rw [v_seq, h, b_bo, Fl.k_rt]
/-! ### dicts of pairs, slices -/
theorem look_kv {α : Type} {op : α → Nat} {y : α → D} {b : Nat} : ∀ {rs : List α}, lookD (rs.map fun r => (D.int (op r), y r)) (.int b) = (rs.find? fun r => decide (op r = b)).map y
  | [] => rfl
  | r :: rs => by
    have ih := look_kv (op := op) (y := y) (b := b) (rs := rs)
    unfold lookD at ih ⊢
    rw [List.map_cons, List.find?_cons, List.find?_cons]
    by_cases h : op r = b
    · have e : eqF (D.int (op r)) (.int (b : Int)) = true := by
        show ((op r : Int) == (b : Int)) = true
        rw [h]; exact beq_self_eq_true _
      rw [e, decide_eq_true h]
      rfl
    · have e : eqF (D.int (op r)) (.int (b : Int)) = false := by
        show ((op r : Int) == (b : Int)) = false
        exact beq_eq_false_iff_ne.mpr (by omega)
      rw [e, decide_eq_false h]
      exact ih
theorem merge_kv {α : Type} {op : α → Nat} {y : α → D} : ∀ {rs pre : List α}, (pre ++ rs).Pairwise (fun a b => op a ≠ op b) → mergeD (pre.map fun r => (D.int (op r), y r)) (rs.map fun r => (D.int (op r), y r)) = (pre ++ rs).map fun r => (D.int (op r), y r)
  | [], pre, _ => by rw [List.append_nil]; rfl
  | r :: rs, pre, h => by
    have hn : pre.find? (fun q => decide (op q = op r)) = none := by
      rw [List.find?_eq_none]
      intro q hq
      have := (List.pairwise_append.mp h).2.2 q hq r (List.mem_cons_self ..)
      simpa using this
    have hl := look_kv (op := op) (y := y) (b := op r) (rs := pre)
    rw [hn] at hl
    have hp : putKD (pre.map fun r => (D.int (op r), y r)) (D.int (op r)) (y r) = (pre ++ [r]).map fun r => (D.int (op r), y r) := by
      unfold putKD
      rw [hl, List.map_append]
      rfl
    have e : pre ++ r :: rs = (pre ++ [r]) ++ rs := by simp
    rw [e] at h ⊢
    rw [← merge_kv h, ← hp]
    rfl
theorem pairs_kv {α : Type} {op : α → Nat} {y : α → D} : ∀ {rs : List α}, pairsD (rs.map fun r => D.tup [.int (op r), y r]) = some (rs.map fun r => (D.int (op r), y r))
  | [] => rfl
  | r :: rs => by
    rw [List.map_cons, pairsD, pairs_kv (rs := rs)]
    rfl
theorem dict_kv {α : Type} {op : α → Nat} {y : α → D} {o : Bool} {rs : List α} (h : rs.Pairwise fun a b => op a ≠ op b) : fDict [.lst o (rs.map fun r => D.tup [.int (op r), y r])] = some (.dct true (rs.map fun r => (D.int (op r), y r))) := by
  show (pairsD (rs.map fun r => D.tup [.int (op r), y r])).map (fun kvs => D.dct true (mergeD [] kvs)) = _
  rw [pairs_kv]
  simp only [Option.map_some]
  have := merge_kv (op := op) (y := y) (rs := rs) (pre := []) (by simpa using h)
  simp only [List.map_nil, List.nil_append] at this
  rw [this]
theorem cut_mid {α : Type} {xs : List α} {i j : Nat} (h1 : i ≤ j) (h2 : j ≤ xs.length) : cutA xs (some (i : Int)) (some (j : Int)) = (xs.drop i).take (j - i) := by
  unfold cutA
  have e1 : HT.sIx xs.length 0 (some (i : Int)) = i := by
    simp [HT.sIx]
    rw [if_neg (by omega)]
    omega
  have e2 : HT.sIx xs.length xs.length (some (j : Int)) = j := by
    simp [HT.sIx]
    rw [if_neg (by omega)]
    omega
  rw [e1, e2]
theorem sl_cd {code : List Nat} {i j : Nat} (h1 : i ≤ j) (h2 : j ≤ code.length) : fSl (cd code) (some (i : Int)) (some (j : Int)) = some (cd ((code.drop i).take (j - i))) := by
  unfold cd
  rw [sl_t, cut_mid h1 (by simpa using h2), ← List.map_drop, ← List.map_take]
theorem fld_by {c : Nat} {rs : List Row} {o : Bool} {k : D → R D} : asI (machD o c rs) ["InstructionSet"] "by_opcode" k () = k (.dct o (rs.map opKv)) := by
  unfold machD
  rw [asI_i, cl1, R.ite_t, lk2, liftK_s]
theorem fld_bc {c : Nat} {rs : List Row} {o : Bool} {k : D → R D} : asI (machD o c rs) ["InstructionSet"] "byte_count" k () = k (.int c) := by
  unfold machD
  rw [asI_i, cl1, R.ite_t, lk0, liftK_s]
theorem fld_in {c : Nat} {rs : List Row} {o : Bool} {k : D → R D} : asI (machD o c rs) ["InstructionSet"] "instructions" k () = k (.tup (rs.map Row.d)) := by
  unfold machD
  rw [asI_i, cl1, R.ite_t, lk1, liftK_s]
theorem ix_by {o : Bool} {rs : List Row} {b : Nat} {r : Row} (h : rs.find? (fun r => decide (r.op = b)) = some r) : fIx (.dct o (rs.map opKv)) (.int (b : Int)) = some r.d := by
  have := look_op (b := b) (rs := rs)
  rw [h] at this
  exact this
theorem lenAt_some {rs : List Row} {b : Nat} {r : Row} (h : rs.find? (fun r => decide (r.op = b)) = some r) : lenAt rs b = r.ln := by
  unfold lenAt
  rw [h]
theorem lenAt_none {rs : List Row} {b : Nat} (h : rs.find? (fun r => decide (r.op = b)) = none) : lenAt rs b = 0 := by
  unfold lenAt
  rw [h]
/-! ### a value equals itself -/
mutual
theorem eqv_same : ∀ (n : Nat) (p : PyData), plainD n p = true → PyData.eqv p p = true
  | n, .none, _ => rfl
  | n, .bool b, _ => by simp [PyData.eqv]
  | n, .int i, _ => by simp [PyData.eqv]
  | n, .str x, _ => by simp [PyData.eqv]
  | 0, .list xs, h => by simp [plainD] at h
  | 0, .tuple xs, h => by simp [plainD] at h
  | n + 1, .list xs, h => by rw [PyData.eqv]; rw [plainD] at h; exact eqvAll_same n xs h
  | n + 1, .tuple xs, h => by rw [PyData.eqv]; rw [plainD] at h; exact eqvAll_same n xs h
  | n, .dict kvs, h => by cases n <;> simp [plainD] at h
theorem eqvAll_same : ∀ (n : Nat) (ps : List PyData), plainA n ps = true → PyData.eqvAll ps ps = true
  | n, [], _ => rfl
  | n, p :: ps, h => by
    rw [plainA, Bool.and_eq_true] at h
    rw [PyData.eqvAll, eqv_same n p h.1, eqvAll_same n ps h.2]
    rfl
end
theorem Rp.eq {n w : Nat} {d : D} (h : Rp n w d) (hn : n ≤ 60) : fEq d d = some (.bl true) ∧ fNe d d = some (.bl false) := by
  obtain ⟨p, h1, h2, h3, h4⟩ := h.ex
  have e1 : SeqAt.shaped p = true := shaped_of h2 (by omega)
  have : eqP d d = some true := by
    unfold eqP
    simp only [h1, e1, Bool.and_self, if_true, eqv_same n p h2]
  unfold fEq fNe
  rw [this]
  exact ⟨rfl, rfl⟩
theorem rp_row {n : Nat} {r : Row} (h : NameOk r.nm) (h1 : r.op < 2 ^ 100) (h2 : r.ln < 2 ^ 100) : Rp (n + 1) 13 r.d :=
  (rp_tup (rpl_cons (rp_nat h1) (rpl_cons (rp_str h.ok) (rpl_cons (rp_nat h2) (rpl_cons rp_bl rpl_nil))))).le (by have := h.hi; omega)
theorem rp_rows {n c L : Nat} {rs : List Row} (h : TabOk c L rs) (hL : L ≤ 1000) : Rp (n + 2) (1 + 13 * rs.length) (.tup (rs.map Row.d)) := by
  have := rpl_all (n := n + 1) (k := 13) (ds := rs.map Row.d) fun d hd => by
    obtain ⟨r, hr, rfl⟩ := List.mem_map.mp hd
    have h1 := h.row r hr
    have := h1.op
    have := h1.l1
    have := h.hi
    exact rp_row h1.nm (Nat.lt_of_le_of_lt (by omega : r.op ≤ 1000) (by decide)) (Nat.lt_of_le_of_lt (by omega : r.ln ≤ 1000) (by decide))
  exact (rp_tup this).le (by rw [List.length_map]; omega)
theorem rp_tabD {n c L : Nat} {rs : List Row} (h : TabOk c L rs) (hL : L ≤ 1000) : Rp (n + 3) (3 + 13 * rs.length) (tabD c rs) :=
  (rp_tup (rpl_cons (rp_nat (Nat.lt_of_le_of_lt h.hi (by decide))) (rpl_cons (rp_rows h hL) rpl_nil))).le (by omega)
theorem eq_tabD {c L : Nat} {rs : List Row} (h : TabOk c L rs) (hL : L ≤ 1000) : fEq2 (tabD c rs) (tabD c rs) = some (.bl true) := ((rp_tabD (n := 0) h hL).eq (by decide)).1
end Mi

set_option maxHeartbeats 4000000
namespace Mi
open PySem PySem.Spec PyProof.Rows L2 RZ Ov PpSet
/-! ### set(xs) of ints -/
section
variable {P : Program} {w : World} {A : Around} {E : Value → Shared → Prop} {s : Shared}
abbrev newS (w : World) : Obj := { cls := .type "set", dict := none, data := .set #[] 0 (.fresh 0 0 (!w.params.followText "set-order")) }
theorem newS_def (w : World) : newS w = { cls := .type "set", dict := none, data := .set #[] 0 (.fresh 0 0 (!w.params.followText "set-order")) } := rfl
theorem set_of_listI {l : Addr} {xs : Array Value} (ns : List Int) {Q : Value → Shared → Prop} (noh : A.handled = none) (isl : s.heap.IsList l xs) (its : IntsAre xs.toList ns) (few : ns.length + 1 < scanBound)
    (k0 : ∀ (g : Heap) (tk c : Nat), SetR w g s.heap.objs.size (fun j => decide (j ∈ ns)) c → (∀ b o, s.heap.get? b = some o → g.get? b = some o) → Q (.ref s.heap.objs.size) { s with heap := g, toks := tk }) :
    wpAny (model P w) A (call (.type "set") [.ref l]) Q E s := by
  have sz : xs.size = ns.length := by have q := IntsAre.length its; rw [Array.length_toList] at q; exact q
  obtain ⟨c0, tl0, m0⟩ := F.called_set.mro
  have m1 := F.called_set.made; have m2 := F.called_set.sub
  refine wpAny_call (codeAny_of_tree ?_); show wpAny _ _ (callAny (.type "set") _) _ _ _
  refine wpAny_pure ⟨Code.quiet_builtin _ (by decide +kernel), codeAny_builtin F.entry_type_call ?_⟩; rw [Around.under_plain (weight_type_call_type "set" [.ref l] []) rfl]
  have m3 := F.called_set.notType; have m4 := F.called_set.canCreate; have m5 := F.typeCall_set_1 (.ref l)
  repeat (any_goals (first | assumption | wp_step))
  refine codeAny_mono (code_set_led1 (.ref l) (E := E) (Q₁ := fun ob z => ob = .ref s.heap.objs.size ∧ z = { s with heap := s.heap.push (newS w) }) ⟨rfl, rfl⟩) fun r z hz => ?_
  cases r with
  | error e => exact hz
  | ok fl =>
    cases fl with
    | ret ob =>
      obtain ⟨rfl, rfl⟩ := hz
      have g0 : (s.heap.push (newS w)).get? s.heap.objs.size = some (newS w) := Heap.get?_push_size _ rfl
      have t0 : Shared.TypeIs { s with heap := s.heap.push (newS w) } (.ref s.heap.objs.size) "set" := ⟨_, g0, rfl⟩
      have i0 := F.called_set.init.lookup; have i1 := F.called_set.init.bind (.ref s.heap.objs.size)
      repeat (any_goals (first | assumption | wp_step))
      refine codeAny_mono (codeAny_call_builtin (R := wants (fun r z2 => r = .none ∧ ∃ g tk c, z2 = { s with heap := g, toks := tk } ∧ SetR w g s.heap.objs.size (fun j => decide (j ∈ ns)) c ∧
          (∀ b o, s.heap.get? b = some o → g.get? b = some o)) E) F.called_set.init.plain F.entry_set_init (check_set_init_1 t0 ?_)) fun r2 z2 hr2 => ?_
      · obtain ⟨ol, e1, e2, nl, e3⟩ := isl
        obtain ⟨a1, a2, a3, a4⟩ := ol
        simp only at e2 e3
        subst e2; subst e3
        have e4 : (s.heap.push (newS w)).get? l = some { cls := .type "list", dict := a2, data := .seq xs nl, slots := a4 } := Heap.get?_push_of_some _ e1
        have b1 := F.sub_list_set; have b2 := F.sub_list_frozenset
        have b3 : (Value.type "list" == Value.type "dict") = false := by decide
        have isl1 : (s.heap.push (newS w)).IsList l xs := ⟨_, e4, rfl, nl, rfl⟩
        unfold Builtin.«set.__init__» noKeywords Builtin.Frozenset.updateFrom
        generalize hPI : pyIter = PI
        wp_walk
        subst hPI
        refine wpAny_pyIter_list isl1 ?_
        refine wpAny_bind (wpAny_runValue ?_)
        have lS : l < s.heap.objs.size := Heap.lt_size e1
        have noh3 : A.in1.in1.in1.handled = none := by simp [noh]
        have nI : l ≠ (s.heap.push (newS w)).objs.size := by rw [Heap.size_push]; exact Nat.ne_of_lt (Nat.lt_succ_of_lt lS)
        have nS : s.heap.objs.size ∉ [(s.heap.push (newS w)).objs.size, l] := by
          rw [Heap.size_push]
          simp only [List.mem_cons, List.mem_singleton, List.not_mem_nil, or_false, not_or]; exact ⟨Nat.ne_of_lt (Nat.lt_succ_self _), Nat.ne_of_gt lS⟩
        have val : ∀ (i : Nat) (v : Value), xs[i]? = some v → ∃ k t, ns[i]? = some k ∧ v = .int k t := fun i v hv => by
          have hi : i < ns.length := by rw [← sz]; exact (Array.getElem?_eq_some_iff.mp hv).1
          obtain ⟨t, e⟩ := PyProof.Rows.IntsAre.int_at its i v (by rw [Array.getElem?_toList]; exact hv)
          refine ⟨ns[i], t, List.getElem?_eq_getElem hi, ?_⟩
          rw [e, List.getD_eq_getElem?_getD, List.getElem?_eq_getElem hi]; rfl
        refine set_update_ints ((Walks.list noh3 _ l nI xs).toS) s.heap.objs.size nS ns sz few val (xs.size - 0) 0 _ (by omega) (Nat.zero_le _) ⟨⟨_, Heap.get?_push_size _ rfl, rfl, rfl⟩, (isl1.push _)⟩ ?u0 ?u1
        case u0 =>
          have g1 : ((s.heap.push (newS w)).push { cls := .type "list_iterator", data := .fields #[.ref l, .int 0 0] }).get? s.heap.objs.size = some (newS w) := Heap.get?_push_of_some _ g0
          exact ⟨0, Nat.le_refl 0, setR_new_at g1⟩
        case u1 =>
          intro z c' mv hc' rS
          obtain ⟨g, g2, d2, tk2, os2⟩ := z
          have eg : g2 = s.gens := mv.gens; have ed : d2 = s.drawn := mv.drawn; have eo : os2 = s.os := mv.os
          subst eg; subst ed; subst eo
          show wpAny _ _ _ _ _ _; refine wpAny_pure ?_; show wpAny _ _ (ret Value.none) _ _ _
          refine wpAny_pure ⟨rfl, g, tk2, c', rfl, rS, fun b o e => ?_⟩
          have h0 : b < s.heap.objs.size := Heap.lt_size e
          have h1 : b ≠ s.heap.objs.size := Nat.ne_of_lt h0
          have h2 : b ≠ (s.heap.push (newS w)).objs.size := by rw [Heap.size_push]; exact Nat.ne_of_lt (Nat.lt_succ_of_lt h0)
          refine mv.heap b o ?_ (Heap.get?_push_of_some _ (Heap.get?_push_of_some _ e))
          simp only [List.mem_cons, List.mem_singleton, List.not_mem_nil, or_false, not_or]; exact ⟨h1, h2⟩
      · cases r2 with
        | error e => exact hr2
        | ok fl2 =>
          cases fl2 with
          | ret r =>
            obtain ⟨rfl, g, tk, c', rfl, rS, kk⟩ := hr2
            repeat (any_goals (first | assumption | wp_step))
            exact k0 _ _ _ rS kk
          | _ => exact hr2.elim
    | _ => exact hz.elim
end
/-- the unlike members, in the order in which they are met -/
def uniq : List Int → List Int → List Int
  | acc, [] => acc
  | acc, n :: r => if n ∈ acc then uniq acc r else uniq (acc ++ [n]) r
theorem uniq_mem : ∀ {ns acc : List Int} {k : Int}, k ∈ uniq acc ns ↔ k ∈ acc ∨ k ∈ ns
  | [], acc, k => by simp [uniq]
  | n :: r, acc, k => by
    unfold uniq
    split
    · rename_i h
      rw [uniq_mem, List.mem_cons]
      constructor
      · rintro (q | q)
        · exact .inl q
        · exact .inr (.inr q)
      · rintro (q | rfl | q)
        · exact .inl q
        · exact .inl h
        · exact .inr q
    · rw [uniq_mem, List.mem_append, List.mem_singleton, List.mem_cons, or_assoc]
theorem uniq_nodup : ∀ {ns acc : List Int}, acc.Nodup → (uniq acc ns).Nodup
  | [], acc, h => h
  | n :: r, acc, h => by
    unfold uniq
    split
    · exact uniq_nodup h
    · rename_i q
      refine uniq_nodup (List.nodup_append.mpr ⟨h, by simp, fun a ha b hb e => ?_⟩)
      rw [List.mem_singleton] at hb
      subst hb
      exact q (e ▸ ha)
theorem setR_len {w : World} {h : Heap} {a : Addr} {S : Int → Bool} {c : Nat} {us : List Int} (R : SetR w h a S c) (nd : us.Nodup) (hm : ∀ k, S k = true ↔ k ∈ us) : c = us.length := by
  obtain ⟨o, es, ep, t, _, _, _, _, n2, mem, _, _, e, _⟩ := R
  have p : (es.toList.map keyOf).Perm us := (List.perm_ext_iff_of_nodup n2 nd).mpr fun k => (mem k).symm.trans (hm k)
  have := p.length_eq
  rw [List.length_map, Array.length_toList] at this
  omega
def rSetI (K : PySem.W.Frag) (w : World) : List V → Hp → VK → Prop := fun xs H Q => ∃ (l : Addr) (ns us : List Int), xs = [.ref l] ∧ (SqL K H l (ns.map V.int) ∨ SqT K H l (ns.map V.int)) ∧ ns.length < 1000 ∧ us.Nodup ∧ (∀ k, k ∈ us ↔ k ∈ ns) ∧
    ∀ p, H p = none → Q (.ref p) (upd H p (SetO w p (fun k => us.any fun q => decide (k = q)) us.length))
theorem cr_setI {X : Cx} (hc : X.calm = true) : CallR X (.type "set") (rSetI X.K X.w) := by
  intro pins s σ H xs us0 Q I r h
  obtain ⟨l, ns, us, rfl, hl, few, nd, mem, q⟩ := h
  rw [Vals.ref1 r]
  have hn : H s.heap.objs.size = none := I.hok.fresh (Nat.le_refl _)
  have fin : ∀ (g : Heap) (tk c : Nat), SetR X.w g s.heap.objs.size (fun j => decide (j ∈ ns)) c → (∀ b o, s.heap.get? b = some o → g.get? b = some o) → EP X pins σ Q (.ref s.heap.objs.size) { s with heap := g, toks := tk } := by
    intro g tk c R k
    have hS : (fun j => decide (j ∈ ns)) = fun k : Int => us.any fun q => decide (k = q) := by
      funext j
      rw [Bool.eq_iff_iff, decide_eq_true_eq, ← mem]
      simp
    have e := setR_len R nd fun k => by rw [decide_eq_true_eq, mem]
    rw [hS, e] at R
    exact ⟨.ref s.heap.objs.size, upd H s.heap.objs.size (SetO X.w s.heap.objs.size (fun k => us.any fun q => decide (k = q)) us.length), I.laid (t' := tk) k (Nat.le_refl _) (setO_new R), rfl, q _ hn⟩
  rcases hl with hl | hl
  · obtain ⟨its, rv, pl, hz⟩ := I.list hl
    exact set_of_listI (P := X.prog) (w := X.w) ns (I.ok.hd hc) pl.isList (by simpa using ints_of_vals rv) (by unfold scanBound; omega) fin
  · obtain ⟨its, rv, pl, hz⟩ := I.tuple hl
    exact call_set_tupI (P := X.prog) (w := X.w) ns (I.ok.hd hc) (show s.heap.IsTuple l its.toArray from pl) (by simpa using ints_of_vals rv) (by unfold scanBound; omega) fun g tk c R _ k => fin g tk c R k
def fMkSet : List D → Option D
  | [.lst _ ds] => match intsD ds with | some ns => if ns.length < 1000 then some (.set ((uniq [] ns).map .int)) else none | none => none
  | [.tup ds] => match intsD ds with | some ns => if ns.length < 1000 then some (.set ((uniq [] ns).map .int)) else none | none => none
  | _ => none
theorem post_set {C : Ct} {Z H : Hp} {F : List Addr} {us : List Int} {p : Addr} {Q : VK} (o : Ok Z H F) (P : Post C Z H F (.set (us.map .int)) Q) (hp : H p = none) (nd : us.Nodup) : Q (.ref p) (upd H p (SetO C.w p (fun k => us.any fun q => decide (k = q)) us.length)) := by
  refine P (.ref p) (upd Z p (SetO C.w p (fun k => us.any fun q => decide (k = q)) us.length)) _ [] (Ext.newZ o hp) ?_ (same_new hp)
  rw [RdV]
  exact ⟨rfl, p, _, rfl, upd_same, .inr ⟨us, rfl, nd, rfl⟩⟩
theorem f_mkset {C : Ct} : FnL C (rSetI C.K C.w) fMkSet := by
  intro ds vs Z H F Q e o ra hf p
  unfold fMkSet at hf
  split at hf
  · split at hf
    · rename_i ns h
      split at hf
      · rename_i h64
        cases hf
        obtain ⟨v, F1, rfl, hd⟩ := ra.one
        obtain ⟨a, us, G, rfl, h1, h2⟩ := hd.lstD o.zh rfl
        have := RdL.ints h2 h
        subst this
        exact ⟨a, ns, uniq [] ns, rfl, .inl h1, h64, uniq_nodup List.nodup_nil, fun k => by rw [uniq_mem]; simp, fun q hq => post_set o p hq (uniq_nodup List.nodup_nil)⟩
      · cases hf
    · cases hf
  · split at hf
    · rename_i ns h
      split at hf
      · rename_i h64
        cases hf
        obtain ⟨v, F1, rfl, hd⟩ := ra.one
        obtain ⟨_, a, us, rfl, h1, h2⟩ := hd.tupP o.zh
        have := RdL.ints h2 h
        subst this
        exact ⟨a, ns, uniq [] ns, rfl, .inr h1, h64, uniq_nodup List.nodup_nil, fun k => by rw [uniq_mem]; simp, fun q hq => post_set o p hq (uniq_nodup List.nodup_nil)⟩
      · cases hf
    · cases hf
  · cases hf
theorem o_mkset {X : Cx} (C : Ct) (hc : X.calm = true := by rfl) (h : X.K = C.K := by rfl) (h3 : X.w = C.w := by rfl) : CallR X (.type "set") (rSetI C.K C.w) := by
  rw [← h, ← h3]
  exact cr_setI hc
end Mi

set_option maxHeartbeats 4000000
set_option exponentiation.threshold 100000
namespace Mi
open PySem PySem.Spec PyProof.Rows L2 RZ Ov PpSet
local macro_rules | `(tactic| walk_at "ev") => `(tactic| simp -dsimp only [*, b_bo, b_b0, v_bo, v_b0, v_c, v_v, v_mv, v_vk, v_k, v_fk, v_nil, v_cons, v_1, v_2, v_L, v_bB, asB_b, v_bAnd, v_bOr, v_bNot, v_bYes, v_if, v_and, v_or, v_not, v_tup, v_lst, v_fld, asI_i, v_oN, v_oS, optI_i, v_sl, v_rg1, v_rg2, v_lrg, v_trg, chainK_b, v_chain,
  Fl.k_nx, Fl.k_rt, Fl.k_bk, Fl.k_ct, v_seq, v_pass, v_bk, v_ct, v_ret, v_retN, v_expr, v_sif, v_asg, optE_s, v_gN, v_gT, v_gsN, v_gsC, Option.bind_some, v_par, v_par3, v_aug, v_put, v_sfld, v_for, optL_s, v_iSeq, v_iOf, v_iStr, v_lc, v_mList, Rf.back_ok, optP_s, v_callF, v_call, v_aN, v_aE, v_aI, v_fN, v_fE, v_fI, optD_s, Option.map_some,
  v_kN, v_kE, v_kI, v_methE, v_methI, Rf.newB_ok, v_new, fin_rt, fin_nx, getR_s, liftK_s, R.ite_t, R.ite_f, List.getElem?_cons_zero, List.getElem?_cons_succ, List.set_cons_zero, List.set_cons_succ, List.map_cons, List.map_nil, List.cons_append, List.nil_append, List.replicate_succ, List.replicate_zero, k2_s, k3_s, insK_s, strK_s, mlK_s, optF_s, joinO_s, v_gp, v_gq, fldO_s, v_gf, setO_s, v_gs, optR_s, al_n, al_c, pi_t, pi_f, pi_n, wi_n, wi_c,
  add_i, sub_i, mod_i, div_i, pow_60, pow_18, lt_i, le_i, gt_i, ge_i, mul_i, is_n, nis_n, is_i, nis_i, is_t, nis_t, ix_t, ix_l, ix_s, set0, set1, set2, len_t, len_l, len_s, abs_i, int_i, int_b, sl_l, sl_t, fz_l, fz_t, fz_d, fz_i, seq_t, seq_l, zip_l, zip_t, enum_l, tuple_l, tuple_t, list_l, list_t, neg_i, isa_isInt_non, isa_isInt_bl, isa_isInt_int, isa_isInt_str, isa_isInt_tup, isa_isInt_lst, isa_isInt_scr, isa_isInt_dct, isa_isBool_non, isa_isBool_bl, isa_isBool_int, isa_isBool_str, isa_isBool_tup, isa_isBool_lst, isa_isBool_scr, isa_isBool_dct, isa_isStr_non, isa_isStr_bl, isa_isStr_int, isa_isStr_str, isa_isStr_tup, isa_isStr_lst, isa_isStr_scr, isa_isStr_dct, isa_isTuple_non, isa_isTuple_bl, isa_isTuple_int, isa_isTuple_str, isa_isTuple_tup, isa_isTuple_lst, isa_isTuple_scr, isa_isTuple_dct, isa_isList_non, isa_isList_bl, isa_isList_int, isa_isList_str, isa_isList_tup, isa_isList_lst, isa_isList_scr, isa_isList_dct, isa_isDict_non, isa_isDict_bl, isa_isDict_int, isa_isDict_str, isa_isDict_tup, isa_isDict_lst, isa_isDict_scr, isa_isDict_dct, eq_i, ne_i, eq_s, ne_s, fzn_1, fzn_2, fzn_3, fzn_4, fzn_5, fzn_6, fzn_7, fzn_8, fzn_9, fzn_s, fznL_n, fznL_c, fznK_n, fznK_c, fznF_n, fznF_c, sz0, sz1, sz2, sz3, sz4, sz5, sz6, sz7, sz8, pk1, pk2, pk3, pk4, fzL_n, fzL_c, fz_int, fz_bl, fz_str, fz_non, putD_n, putD_c, at0, at1, at2, at3, ix0, ix1, ix2, Bool.not_true, Bool.not_false, Bool.true_and, Bool.and_true, Bool.false_and, Bool.and_false, Bool.or_true, Bool.true_or, Bool.false_or, Bool.or_false, if_true, if_false, Bool.false_eq_true, decide_true, decide_false, and_self, and_true, true_and, not_true_eq_false, not_false_eq_true, ne_eq, false_and, and_false, eq_self])
local macro_rules | `(tactic| walk_at "env") => `(tactic| simp only [List.map_cons, List.map_nil, List.cons_append, List.nil_append, List.replicate_succ, List.replicate_zero])
local macro_rules | `(tactic| walk_at "ew") => `(tactic| simp -dsimp only [*, b_bo, b_b0, v_bo, v_b0, v_c, v_v, v_mv, v_vk, v_k, v_fk, v_nil, v_cons, v_1, v_2, v_L, v_bB, asB_b, v_bAnd, v_bOr, v_bNot, v_bYes, v_if, v_and, v_or, v_not, v_tup, v_lst, v_fld, asI_i, v_oN, v_oS, optI_i, v_sl, v_rg1, v_rg2, v_lrg, v_trg, chainK_b, v_chain,
  Fl.k_nx, Fl.k_rt, Fl.k_bk, Fl.k_ct, v_seq, v_pass, v_bk, v_ct, v_ret, v_retN, v_expr, v_sif, v_asg, optE_s, v_gN, v_gT, v_gsN, v_gsC, Option.bind_some, v_par, v_par3, v_aug, v_put, v_sfld, v_for, optL_s, v_iSeq, v_iOf, v_iStr, v_lc, v_mList, Rf.back_ok, optP_s, v_callF, v_call, v_aN, v_aE, v_aI, v_fN, v_fE, v_fI, optD_s, Option.map_some,
  v_kN, v_kE, v_kI, v_methE, v_methI, Rf.newB_ok, v_new, fin_rt, fin_nx, getR_s, liftK_s, R.ite_t, R.ite_f, List.getElem?_cons_zero, List.getElem?_cons_succ, List.set_cons_zero, List.set_cons_succ, List.map_cons, List.map_nil, List.cons_append, List.nil_append, List.replicate_succ, List.replicate_zero, k2_s, k3_s, insK_s, strK_s, mlK_s, optF_s, joinO_s, v_gp, v_gq, fldO_s, v_gf, setO_s, v_gs, optR_s, al_n, al_c, pi_t, pi_f, pi_n, wi_n, wi_c,
  add_i, sub_i, mod_i, div_i, pow_60, pow_18, lt_i, le_i, gt_i, ge_i, mul_i, is_n, nis_n, is_i, nis_i, is_t, nis_t, ix_t, ix_l, ix_s, set0, set1, set2, len_t, len_l, len_s, abs_i, int_i, int_b, sl_l, sl_t, fz_l, fz_t, fz_d, fz_i, seq_t, seq_l, zip_l, zip_t, enum_l, tuple_l, tuple_t, list_l, list_t, neg_i, isa_isInt_non, isa_isInt_bl, isa_isInt_int, isa_isInt_str, isa_isInt_tup, isa_isInt_lst, isa_isInt_scr, isa_isInt_dct, isa_isBool_non, isa_isBool_bl, isa_isBool_int, isa_isBool_str, isa_isBool_tup, isa_isBool_lst, isa_isBool_scr, isa_isBool_dct, isa_isStr_non, isa_isStr_bl, isa_isStr_int, isa_isStr_str, isa_isStr_tup, isa_isStr_lst, isa_isStr_scr, isa_isStr_dct, isa_isTuple_non, isa_isTuple_bl, isa_isTuple_int, isa_isTuple_str, isa_isTuple_tup, isa_isTuple_lst, isa_isTuple_scr, isa_isTuple_dct, isa_isList_non, isa_isList_bl, isa_isList_int, isa_isList_str, isa_isList_tup, isa_isList_lst, isa_isList_scr, isa_isList_dct, isa_isDict_non, isa_isDict_bl, isa_isDict_int, isa_isDict_str, isa_isDict_tup, isa_isDict_lst, isa_isDict_scr, isa_isDict_dct, eq_i, ne_i, eq_s, ne_s, fzn_1, fzn_2, fzn_3, fzn_4, fzn_5, fzn_6, fzn_7, fzn_8, fzn_9, fzn_s, fznL_n, fznL_c, fznK_n, fznK_c, fznF_n, fznF_c, sz0, sz1, sz2, sz3, sz4, sz5, sz6, sz7, sz8, pk1, pk2, pk3, pk4, fzL_n, fzL_c, fz_int, fz_bl, fz_str, fz_non, putD_n, putD_c, at0, at1, at2, at3, ix0, ix1, ix2, Bool.not_true, Bool.not_false, Bool.true_and, Bool.and_true, Bool.false_and, Bool.and_false, Bool.or_true, Bool.true_or, Bool.false_or, Bool.or_false, if_true, if_false, Bool.false_eq_true, decide_true, decide_false, and_self, and_true, true_and, not_true_eq_false, not_false_eq_true, ne_eq, false_and, and_false, eq_self, v_parN, po2, po3, po4, se_n, se_c, v_gUL, v_dnew, fi2_i, gdiv_i, gadd_i])
/-! ### an instruction set made directly -/
theorem init_spec {c L : Nat} {rs : List Row} (h : TabOk c L rs) (hL : L ≤ 12) : m_InstructionSet_init [.ins true "InstructionSet" [], .int c, .tup (rs.map Row.d)] = .ok .non [machD true c rs] := by
  have hs : rs.length ≤ sizeLine := Nat.le_trans (Nat.le_trans h.len h.hi) (by decide)
  have h1 := areinst_spec h hL
  have h2 := isint_spec (x := (c : Int)) (lo := 2) (hi := 256) (by have := h.lo; omega) (by have := h.hi; omega)
  have z1 := fznL_rows rs
  have z2 := seq_rows rs
  have key : ∀ s : D, cp_InstructionSet_init_1 [some s, some (.int c), some (.tup (rs.map Row.d)), none] = .ok (.dct true (rs.map opKv)) [some s, some (.int c), some (.tup (rs.map Row.d)), none] := by
    intro s
    unfold cp_InstructionSet_init_1
    refine eDc_map rs Row.d (fun r => .int r.op) (fun r => r.d) (e := [some s, some (.int c), some (.tup (rs.map Row.d)), none]) ?_ rfl hs (fun r hr => ⟨[some s, some (.int c), some (.tup (rs.map Row.d)), some r.d], rfl, ?_, ?_, rfl⟩) (fun r _ => ⟨rfl, rfl⟩) (h.asc.imp fun {a b} hab => ?_)
    · walk_at "ev"
    · unfold Row.d
      walk_at "ev"
    · have := fzn_row r
      walk_at "ev"
    · exact beq_eq_false_iff_ne.mpr (by omega)
  have c1 : (["InstructionSet"] : List String).contains "InstructionSet" = true := by decide
  have q1 : ([] : List (String × D)).length < 1000 := by decide
  have q2 : ∀ {a : String × D}, ([a] : List (String × D)).length < 1000 := fun {a} => by simp
  have q3 : ∀ {a b : String × D}, ([a, b] : List (String × D)).length < 1000 := fun {a b} => by simp
  have n1 : ¬ ("byte_count" : String) = "instructions" := by decide
  have n2 : ¬ ("byte_count" : String) = "by_opcode" := by decide
  have n3 : ¬ ("instructions" : String) = "by_opcode" := by decide
  unfold m_InstructionSet_init b_InstructionSet_init machD
  rw [v_fn]
  clear hs h hL
  generalize hX : rs.map Row.d = X at *
  generalize hY : rs.map opKv = Y at *
  walk_at "ev"
/-! ### comprehensions with a condition -/
theorem eLc_filter {α : Type} {it : MI} {g : MG} {c : MB} {m : ME} {ws : List Nat} {env e env0 : Env} (l : List α) (f : α → D) (p : α → Bool) (y : α → D) (h1 : it env = .ok (l.map f) e) (h2 : wipeE e ws = env0) (hl : l.length ≤ sizeLine)
    (h : ∀ a ∈ l, ∃ e, g (f a) env0 = some e ∧ c e = .ok (p a) e ∧ (p a = true → m e = .ok (y a) e) ∧ wipeE e ws = env0) : eLc it g c m ws env = .ok (.lst true ((l.filter p).map y)) env0 := by
  have key : ∀ (l : List α) (acc : List D), (∀ a ∈ l, ∃ e, g (f a) env0 = some e ∧ c e = .ok (p a) e ∧ (p a = true → m e = .ok (y a) e) ∧ wipeE e ws = env0) → acc.length + l.length ≤ sizeLine → lcF g c m ws (l.map f) acc env0 = .ok (acc ++ (l.filter p).map y) env0 := by
    intro l
    induction l with
    | nil => intro acc _ _; simp [lcF]
    | cons a l ih =>
      intro acc h hl
      obtain ⟨e, q1, q2, q3, q4⟩ := h a (List.mem_cons_self ..)
      rw [List.map_cons, lcF, q1]
      simp only [q2, v_b0]
      cases hp : p a with
      | false =>
        simp only [Bool.false_eq_true, if_false]
        rw [q4, ih acc (fun b hb => h b (List.mem_cons_of_mem _ hb)) (by simp at hl ⊢; omega), List.filter_cons, hp]
        simp
      | true =>
        simp only [if_true, q3 hp, v_b0]
        rw [if_pos (by simp at hl; omega), q4, ih (acc ++ [y a]) (fun b hb => h b (List.mem_cons_of_mem _ hb)) (by simp at hl ⊢; omega), List.filter_cons, hp]
        simp
  rw [v_lc, h1, b_bo, h2, key l [] h (by simpa using hl), b_b0]
  rfl
theorem uniq_len : ∀ {ns acc : List Int}, (uniq acc ns).length ≤ acc.length + ns.length
  | [], acc => by simp [uniq]
  | n :: r, acc => by
    unfold uniq
    split
    · have := uniq_len (ns := r) (acc := acc)
      rw [List.length_cons]
      omega
    · have := uniq_len (ns := r) (acc := acc ++ [n])
      rw [List.length_append] at this
      simp only [List.length_cons, List.length_nil] at this ⊢
      omega
theorem eSc_ints {α : Type} {it : MI} {g : MG} {c : MB} {m : ME} {ws : List Nat} {env e env0 : Env} (l : List α) (f : α → D) (p : α → Bool) (y : α → Int) (h1 : it env = .ok (l.map f) e) (h2 : wipeE e ws = env0) (hl : l.length ≤ 900)
    (h : ∀ a ∈ l, ∃ e, g (f a) env0 = some e ∧ c e = .ok (p a) e ∧ m e = .ok (.int (y a)) e ∧ wipeE e ws = env0) : eSc it g c m ws env = .ok (.set ((uniq [] ((l.filter p).map y)).map .int)) env0 := by
  have key : ∀ (l : List α) (acc : List Int), (∀ a ∈ l, ∃ e, g (f a) env0 = some e ∧ c e = .ok (p a) e ∧ m e = .ok (.int (y a)) e ∧ wipeE e ws = env0) → acc.length + l.length ≤ 900 → cF g c (lCons m lNil) ws addSI (l.map f) acc env0 = .ok (uniq acc ((l.filter p).map y)) env0 := by
    intro l
    induction l with
    | nil => intro acc _ _; simp [cF, uniq]
    | cons a l ih =>
      intro acc h hl
      obtain ⟨e, q1, q2, q3, q4⟩ := h a (List.mem_cons_self ..)
      rw [List.map_cons, cF, q1]
      simp only [q2, v_b0]
      cases hp : p a with
      | false =>
        simp only [Bool.false_eq_true, if_false]
        rw [q4, ih acc (fun b hb => h b (List.mem_cons_of_mem _ hb)) (by simp at hl ⊢; omega), List.filter_cons, hp]
        simp
      | true =>
        have e1 : lCons m lNil e = .ok [.int (y a)] e := by rw [v_cons, q3, b_bo]; rfl
        simp only [if_true, e1, v_b0]
        have e2 : addSI acc [.int (y a)] = some (if y a ∈ acc then acc else acc ++ [y a]) := by
          rw [addSI, if_pos (by simp at hl; omega)]
          by_cases hm : y a ∈ acc
          · rw [if_pos hm, if_pos (by simpa using hm)]
          · rw [if_neg hm, if_neg (by simpa using hm)]
        simp only [e2]
        rw [q4, List.filter_cons, hp]
        simp only [if_true, List.map_cons]
        by_cases hm : y a ∈ acc
        · rw [if_pos hm, ih acc (fun b hb => h b (List.mem_cons_of_mem _ hb)) (by simp at hl ⊢; omega), uniq, if_pos hm]
        · rw [if_neg hm, ih _ (fun b hb => h b (List.mem_cons_of_mem _ hb)) (by simp at hl ⊢; omega), uniq, if_neg hm]
  have k1 : eComp it g c (lCons m lNil) ws addSI [] (fun ns => .set (ns.map .int)) env = .ok (.set ((uniq [] ((l.filter p).map y)).map .int)) env0 := by
    unfold eComp
    rw [h1, v_bo, h2, key l [] h (by simpa using hl)]
    rfl
  unfold eSc
  rw [k1]
theorem sorted_set {ns : List Int} (h : (uniq [] ns).length < 64) : fSorted [.set ((uniq [] ns).map .int)] = some (.lst true ((sortI (uniq [] ns)).map .int)) := by
  unfold fSorted
  simp only [intsD_ofMap]
  rw [if_pos h]
theorem mkset_l {o : Bool} {ns : List Int} (h : ns.length ≤ 900) : fMkSet [.lst o (ns.map .int)] = some (.set ((uniq [] ns).map .int)) := by
  unfold fMkSet
  simp only [intsD_ofMap]
  rw [if_pos (by omega)]
theorem mkset_t {ns : List Int} (h : ns.length ≤ 900) : fMkSet [.tup (ns.map .int)] = some (.set ((uniq [] ns).map .int)) := by
  unfold fMkSet
  simp only [intsD_ofMap]
  rw [if_pos (by omega)]
/-- unlike numbers of a small range are few -/
theorem asc_few : ∀ {l : List Int} {a b : Int}, l.Pairwise (· < ·) → (∀ n ∈ l, a ≤ n ∧ n < b) → a ≤ b → (l.length : Int) ≤ b - a
  | [], a, b, _, _, h => by simp only [List.length_nil]; omega
  | x :: l, a, b, hp, h, hab => by
    rw [List.pairwise_cons] at hp
    have hx := h x (List.mem_cons_self ..)
    have := asc_few (l := l) (a := x + 1) (b := b) hp.2 (fun n hn => ⟨by have := hp.1 n hn; omega, (h n (List.mem_cons_of_mem _ hn)).2⟩) (by omega)
    rw [List.length_cons]
    omega
theorem few_of {ns : List Int} {M : Nat} (nd : ns.Nodup) (h : ∀ n ∈ ns, 0 ≤ n ∧ n < M) : ns.length ≤ M := by
  have pm := sortI_perm ns
  have so : (sortI ns).Pairwise (· < ·) := by
    have n2 : (sortI ns).Nodup := pm.nodup_iff.mpr nd
    have := (List.pairwise_and_iff.mpr ⟨sortI_sorted ns, n2⟩)
    exact this.imp fun {a b} hab => by have h1 := hab.1; have h2 := hab.2; omega
  have := asc_few so (a := 0) (b := M) (fun n hn => h n (pm.mem_iff.mp hn)) (by omega)
  have e := pm.length_eq
  omega
end Mi

set_option maxHeartbeats 4000000
namespace HT
open PySem PySem.Spec PyProof.Rows
section
variable {prog : Program} {w : World} {A : Around} {E : Value → Shared → Prop} {s : Shared}
/-! ### t[::-1] of a tuple -/
theorem places_rev (n : Nat) : Builtin.Slice.slicePlaces ((n : Int) - 1) (-1) (-1) = n := by
  unfold Builtin.Slice.slicePlaces
  have g1 : ¬ ((-1 : Int) > 0) := by omega
  simp only [g1, if_false]
  by_cases g : ((n : Int) - 1) > -1
  · rw [if_pos g]
    have : -(-1 : Int) = 1 := by decide
    rw [this, Int.ediv_one]
    omega
  · rw [if_neg g]
    omega
theorem adjust_rev (n : Nat) : Builtin.Slice.sliceAdjust none none (-1) (n : Int) = ((n : Int) - 1, -1) := by
  have g1 : ((-1 : Int) < 0) := by omega
  unfold Builtin.Slice.sliceAdjust
  simp only [g1, if_true]
theorem applied_rev {sl : Addr} {vs : Value} {n : Nat} {Q : Int × Int × Nat → Shared → Prop} (hs : s.heap.IsSliceOf sl .none .none vs) (ps : IsPart vs (some (-1)))
    (h : Q ((n : Int) - 1, -1, n) s) : wpAny (model prog w) A (Builtin.Slice.sliceApplied (.ref sl) (pure (n : Int))) Q E s := by
  obtain ⟨os, e1, e2, e3⟩ := id hs
  unfold Builtin.Slice.sliceApplied Builtin.Slice.sliceFields
  refine wpAny_bind (wpAny_bind (wpAny_field e1 e3 (x := .none) rfl (wpAny_bind (wpAny_field e1 e3 (x := .none) rfl (wpAny_bind (wpAny_field e1 e3 (x := vs) rfl (wpAny_pure ?_)))))))
  refine wpAny_bind (slicePart_ ps ?_)
  show wpAny _ _ (if ((-1 : Int) == 0) = true then _ else _) _ _ s
  rw [if_neg (by decide)]
  refine wpAny_bind (slicePart_none (wpAny_bind (slicePart_none (wpAny_bind (wpAny_pure ?_)))))
  show wpAny _ _ (match Builtin.Slice.sliceAdjust none none (-1) (n : Int) with | (lo, hi) => pure (lo, (-1 : Int), Builtin.Slice.slicePlaces lo hi (-1))) _ _ s
  rw [adjust_rev n]
  show wpAny _ _ (pure ((n : Int) - 1, (-1 : Int), Builtin.Slice.slicePlaces ((n : Int) - 1) (-1) (-1))) _ _ s
  rw [places_rev]
  exact wpAny_pure h
theorem pick_rev (xs : Array Value) : ((List.range xs.size).filterMap fun (m : Nat) => xs[(((xs.size : Int) - 1) + (m : Int) * (-1)).toNat]?).toArray = xs.toList.reverse.toArray := by
  congr 1
  have key : (List.range xs.size).map (fun (m : Nat) => xs[(((xs.size : Int) - 1) + (m : Int) * (-1)).toNat]?) = xs.toList.reverse.map some := by
    apply List.ext_getElem
    · simp
    · intro i h1 h2
      simp only [List.length_map, List.length_range] at h1
      simp only [List.getElem_map, List.getElem_range, List.getElem_reverse, Array.length_toList, Array.getElem_toList]
      have e : (((xs.size : Int) - 1) + (i : Int) * (-1)).toNat = xs.size - 1 - i := by omega
      rw [e]
      exact Array.getElem?_eq_getElem (by omega)
  have e2 : (List.range xs.size).filterMap (fun (m : Nat) => xs[(((xs.size : Int) - 1) + (m : Int) * (-1)).toNat]?) = ((List.range xs.size).map (fun (m : Nat) => xs[(((xs.size : Int) - 1) + (m : Int) * (-1)).toNat]?)).filterMap id := by
    rw [List.filterMap_map]
    rfl
  rw [e2, key, List.filterMap_map]
  simp
theorem getItem_tuple_rev {t sl : Addr} {items : Array Value} {vs : Value} {Q : Value → Shared → Prop} (ht : IsTup s.heap t items) (hs : s.heap.IsSliceOf sl .none .none vs) (ps : IsPart vs (some (-1)))
    (h : Q (.ref s.heap.objs.size) { s with heap := s.heap.push { cls := .type "tuple", data := .seq items.toList.reverse.toArray } }) (hsz : items.size ≤ sizeLine) : wpAny (model prog w) A (getItem (.ref t) (.ref sl)) Q E s := by
  have ok : sizeOk (.seq items.toList.reverse.toArray) := by
    show items.toList.reverse.toArray.size ≤ sizeLine
    rw [List.size_toArray, List.length_reverse, Array.length_toList]
    exact hsz
  obtain ⟨os, e1, e2, e3⟩ := id hs
  have ty : s.TypeIs (.ref sl) "slice" := ⟨os, e1, e2⟩
  unfold getItem
  try with_reducible refine wpAny_holding ?_
  first | refine wpAny_bind (wpAny_pure ?_) | skip
  refine wpAny_bind (wpAny_sequenceKey ht.typeIs (by decide) ?_)
  refine wpAny_bind (wpAny_callSpecial?_slot (name := Str.ofString "__getitem__") ht.typeIs PyProof.Rows.slot_tuple_getitem (wpAny_call_entry PyProof.Rows.slot_tuple_getitem ht.typeIs entry_tuple_getitem ?_ (args_tuple_getitem _ _)))
  show wpAny _ _ (Builtin.Tuple.tupleItemsOf (.ref t) >>= _) _ _ s
  refine wpAny_bind (tupleItemsOf_ ht ?_)
  refine wpAny_bind (wpAny_typeOf ty ?_)
  rw [if_pos (by decide)]
  refine wpAny_bind (applied_rev hs ps ?_)
  have no : ¬ ((((items.size : Int) - 1) == 0 && (-1 : Int) == 1 && items.size == items.size) = true) := by
    intro q
    rw [Bool.and_eq_true, Bool.and_eq_true] at q
    exact absurd q.1.2 (by decide)
  show wpAny _ _ (if (((items.size : Int) - 1) == 0 && (-1 : Int) == 1 && items.size == items.size) = true then _ else _) _ _ s
  rw [if_neg no, pick_rev]
  first
    | exact wpAny_bind (m := Builtin.Tuple.tupleExact _) (wpAny_newObj_type (wpAny_pure ⟨_, rfl, wpAny_pure h⟩) ok)
    | exact wpAny_bind (m := Builtin.Tuple.tupleExact _) (wpAny_newObj_type (wpAny_bind (wpAny_pure (wpAny_pure ⟨_, rfl, wpAny_pure h⟩))) ok)
    | exact wpAny_bind (wpAny_bind (m := Builtin.Tuple.tupleExact _) (wpAny_newObj_type (wpAny_pure (wpAny_pure ⟨_, rfl, wpAny_pure h⟩)) ok))
    | exact wpAny_bind (wpAny_bind (m := Builtin.Tuple.tupleExact _) (wpAny_newObj_type (wpAny_pure ⟨_, rfl, wpAny_pure h⟩) ok))
end
end HT
namespace Mi
open PySem PySem.Spec PyProof.Rows L2 RZ Ov PpSet
section
variable {X : Cx}
def tRevU (K : PySem.W.Frag) (te : TE) : TE := fun σ H Q => te σ H fun x H1 => (∃ a xs, x = .ref a ∧ SqL K H1 a xs ∧ ∀ p, H1 p = none → Q (.ref p) (upd H1 p (.lst xs.reverse))) ∨ (∃ a xs, x = .ref a ∧ SqT K H1 a xs ∧ ∀ p, H1 p = none → Q (.ref p) (upd H1 p (.tup xs.reverse)))
theorem pe_revU {e : Expr} {te : TE} {k : Nat} {p1 p2 p3 pos : Pos} (he : PE X e te) : PE X (.Subscript e (.Slice none none (some (.UnaryOp .USub (.Constant (.int 1) k p1) p2)) p3) pos) (tRevU X.K te) := by
  refine ⟨fun pins s σ H Q I h => ?_⟩
  refine Subscript_ (thn (he.run pins s σ H _ I h) fun v s1 ⟨x, H1, I1, r1, q1⟩ => ?_)
  obtain ⟨a, rfl⟩ : ∃ a, x = .ref a := by
    rcases q1 with ⟨a, _, e, _⟩ | ⟨a, _, e, _⟩
    · exact ⟨a, e⟩
    · exact ⟨a, e⟩
  cases r1
  have st : PO X (some (.UnaryOp .USub (.Constant (.int 1) k p1) p2)) (tPart (tUn (rU fun i => .int (-i)) (tC (.int 1)))) := po_some (pe_un un_neg pe_int)
  refine wpAny_Slice (thn (po_none.run pins s1 σ H1 (fun o H2 => o = none ∧ H2 = H1) I1 ⟨rfl, rfl⟩) fun vl s2 ⟨l, H2, I2, pl, e1, e2⟩ => ?_)
  subst e1 e2
  refine thn (po_none.run pins s2 σ H2 (fun o H3 => o = none ∧ H3 = H2) I2 ⟨rfl, rfl⟩) fun vu s3 ⟨u, H3, I3, pu, e3, e4⟩ => ?_
  subst e3 e4
  refine thn (st.run pins s3 σ H3 (fun o H4 => o = some (-1) ∧ H4 = H3) I3 ⟨1, rfl, -1, rfl, rfl, rfl⟩) fun vs s4 ⟨o, H4, I4, ps, e5, e6⟩ => ?_
  subst e5 e6
  cases pl
  cases pu
  have I5 : Inv X pins σ H4 { s4 with heap := s4.heap.push { cls := .type "slice", data := .fields #[.none, .none, vs] } } := I4.kept (t' := s4.toks) fun b ob q => Heap.get?_push_of_some _ q
  show wpAny (model X.prog X.w) X.A (subscriptTail e (.Slice none none (some (.UnaryOp .USub (.Constant (.int 1) k p1) p2)) p3) (.ref a) (.ref s4.heap.objs.size)) (EP X pins σ Q) X.xe { s4 with heap := s4.heap.push { cls := .type "slice", data := .fields #[.none, .none, vs] } }
  rcases q1 with ⟨a', xs, ea, hx, q⟩ | ⟨a', xs, ea, hx, q⟩
  · cases ea
    obtain ⟨its, r, ht, hz⟩ := I5.list hx
    have hlen := r.length
    refine tail_any (ops := [.ref a, .ref s4.heap.objs.size]) ht.isList.typeIs (PySem.slot_list_getitem.lookup) ?_ (by with_unfolding_all rfl)
    refine wpAny_getItem_list_slice ht.isList (Heap.IsSliceOf.new _ .none .none vs) .none .none ps (by decide) ?_ (by rw [List.size_toArray]; omega)
    rw [PySem.W.krv_pick]
    refine ⟨.ref _, _, I5.laid (t' := s4.toks) (o := .lst xs.reverse) (fun b ob q => Heap.get?_push_of_some _ q) (Nat.le_refl _) ?_, rfl, q _ (I5.hok.fresh (Nat.le_refl _))⟩
    exact ⟨by rw [List.length_reverse]; exact hz, _, 0, r.reverse, Heap.get?_push_size _ rfl⟩
  · cases ea
    obtain ⟨its, r, ht, hz⟩ := I5.tuple hx
    have hlen := r.length
    refine tail_any (ops := [.ref a, .ref s4.heap.objs.size]) ht.typeIs (PyProof.Rows.slot_tuple_getitem.lookup) ?_ (by with_unfolding_all rfl)
    refine HT.getItem_tuple_rev ht (Heap.IsSliceOf.new _ .none .none vs) ps ?_ (by rw [List.size_toArray]; omega)
    refine ⟨.ref _, _, I5.laid (t' := s4.toks) (o := .tup xs.reverse) (fun b ob q => Heap.get?_push_of_some _ q) (Nat.le_refl _) ?_, rfl, q _ (I5.hok.fresh (Nat.le_refl _))⟩
    exact ⟨by rw [List.length_reverse]; exact hz, _, r.reverse, IsTup.new _ _⟩
end
section
variable {N : Cn} {C : Ct}
/-- xs[::-1] of a list or a tuple -/
def fRevU : D → Option D
  | .lst _ ds => if fznL ds then some (.lst true ds.reverse) else none
  | .tup ds => some (.tup ds.reverse)
  | _ => none
theorem re_revU {st : Bool} {t : TE} {m : ME} (h : RefT N st t m) : RefE N st (tRevU N.C.K t) (e1 fRevU m) := by
  refine re_un (r := fun x H1 Q => (∃ a xs, x = .ref a ∧ SqL N.C.K H1 a xs ∧ ∀ p, H1 p = none → Q (.ref p) (upd H1 p (.lst xs.reverse))) ∨ (∃ a xs, x = .ref a ∧ SqT N.C.K H1 a xs ∧ ∀ p, H1 p = none → Q (.ref p) (upd H1 p (.tup xs.reverse)))) ?_ h
  intro d v Fd Z H F Q e o rd hf p
  unfold fRevU at hf
  split at hf
  · split at hf
    · rename_i q
      cases hf
      obtain ⟨a, vs, G, rfl, h1, h2⟩ := rd.lstD o.zh rfl
      exact .inl ⟨a, vs, rfl, h1, fun p' hp => post_lst o p hp (h2.nof q).rev⟩
    · cases hf
  · cases hf
    obtain ⟨_, a, vs, rfl, h1, h2⟩ := rd.tupP o.zh
    exact .inr ⟨a, vs, rfl, h1, fun p' hp => post_tup o p hp h2.rev⟩
  · cases hf
end
section
variable {X : Cx} {N : Cn} {s1 : Bool} {a : Expr} {m : ME}
theorem q_revU {k : Nat} {p1 p2 p3 pos : Pos} (ag : Ag X N) (ha : QT X N s1 a m) : QE X N s1 (.Subscript a (.Slice none none (some (.UnaryOp .USub (.Constant (.int 1) k p1) p2)) p3) pos) (e1 fRevU m) := by
  obtain ⟨t, p, q⟩ := ha
  have h1 := pe_revU (X := X) (k := k) (p1 := p1) (p2 := p2) (p3 := p3) (pos := pos) p
  rw [ag.K] at h1
  exact ⟨_, h1, re_revU q⟩
end
end Mi

set_option maxHeartbeats 4000000
namespace Mi
open PySem PySem.Spec PyProof.Rows L2 RZ Ov PpSet
/-! ### repr of tuples and dicts -/
def kPy : Key → PyData
  | .inl i => .int i
  | .inr x => .str x
mutual
inductive Dq (K : PySem.W.Frag) (H : Hp) : V → PyData → Prop
  | non : Dq K H .non .none
  | bl (b : Bool) : Dq K H (.bl b) (.bool b)
  | int (i : Int) : Dq K H (.int i) (.int i)
  | str (x : Str) : Dq K H (.str x) (.str x)
  | tup {a : Addr} {xs : List V} {ds : List PyData} : SqT K H a xs → DqA K H xs ds → Dq K H (.ref a) (.tuple ds)
  | dct {a : Addr} {us : List (Key × V)} {kvs : List (PyData × PyData)} : H a = some (.dK us) → DqK K H us kvs → Dq K H (.ref a) (.dict kvs)
inductive DqA (K : PySem.W.Frag) (H : Hp) : List V → List PyData → Prop
  | nil : DqA K H [] []
  | cons {v : V} {vs : List V} {d : PyData} {ds : List PyData} : Dq K H v d → DqA K H vs ds → DqA K H (v :: vs) (d :: ds)
inductive DqK (K : PySem.W.Frag) (H : Hp) : List (Key × V) → List (PyData × PyData) → Prop
  | nil : DqK K H [] []
  | cons {k : Key} {v : V} {us : List (Key × V)} {d : PyData} {kvs : List (PyData × PyData)} : Dq K H v d → DqK K H us kvs → DqK K H ((k, v) :: us) ((kPy k, d) :: kvs)
end
section
variable {X : Cx} {pins : List (Addr × Obj)} {σ : L2.St} {H : Hp} {s : Shared}
theorem key_reads {k : Key} {u : Value} {h : Heap} (e : keyIs k u = true) : Reads h u (kPy k) [] := by
  rcases keyIs_shape e with ⟨i, t, rfl, rfl⟩ | ⟨x, t, rfl, rfl⟩
  · exact Reads.int i t
  · exact Reads.str x t
mutual
theorem Dq.reads (I : Inv X pins σ H s) : ∀ (d : PyData) (v : V) (u : Value), Dq X.K H v d → RelV v u → ∃ as, Reads s.heap u d as ∧ sysModules ∉ as
  | .none, _, _, h, r => by cases h; cases r; exact ⟨_, Reads.none, by simp⟩
  | .bool b, _, _, h, r => by cases h; cases r; exact ⟨_, Reads.bool b, by simp⟩
  | .int i, _, _, h, r => by cases h; obtain ⟨t, rfl⟩ := r; exact ⟨_, Reads.int i t, by simp⟩
  | .str x, _, _, h, r => by cases h; obtain ⟨t, rfl⟩ := r; exact ⟨_, Reads.str x t, by simp⟩
  | .list ds, _, _, h, r => by cases h
  | .tuple ds, _, _, h, r => by
    cases h with
    | tup hs ha =>
      cases r
      obtain ⟨its, rv, ⟨o, ho, hc, n, hd⟩, _⟩ := I.tuple hs
      obtain ⟨as, hr, hn⟩ := DqA.reads I ds _ its ha rv
      exact ⟨_, Reads.tuple ho hc hd hr, hn⟩
  | .dict kvs, _, _, h, r => by
    cases h with
    | @dct a us _ hs ha =>
      cases r
      obtain ⟨_, hne, vs, kv, o, es, ep, ho, hex, hd, _, pr, _⟩ := dk_of I.hok hs
      obtain ⟨as, bs, r1, r2, n1, n2⟩ := DqK.reads I kvs us vs es.toList ha kv pr
      refine ⟨_, Reads.dict ho hex.1 hd r1 r2, ?_⟩
      simp only [List.cons_append, List.mem_cons, List.mem_append, not_or]
      exact ⟨fun e => by rw [← e] at hne; simp at hne, n1, n2⟩
theorem DqA.reads (I : Inv X pins σ H s) : ∀ (ds : List PyData) (vs : List V) (us : List Value), DqA X.K H vs ds → Vals vs us → ∃ as, ReadsAll s.heap us ds as ∧ sysModules ∉ as
  | [], _, _, h, r => by cases h; cases r; exact ⟨_, ReadsAll.nil, by simp⟩
  | d :: ds, _, _, h, r => by
    cases h with
    | cons h1 h2 =>
      cases r with
      | cons r1 r2 =>
        obtain ⟨as, q1, n1⟩ := Dq.reads I d _ _ h1 r1
        obtain ⟨bs, q2, n2⟩ := DqA.reads I ds _ _ h2 r2
        exact ⟨_, ReadsAll.cons q1 q2, by simp only [List.mem_append, not_or]; exact ⟨n1, n2⟩⟩
theorem DqK.reads (I : Inv X pins σ H s) : ∀ (kvs : List (PyData × PyData)) (us : List (Key × V)) (vs : List (Key × Value)) (es : List DictEntry), DqK X.K H us kvs → KV us vs → Pairs (mixKind X.prog X.w) es vs →
    ∃ as bs, ReadsAll s.heap (es.map (·.key)) (kvs.map (·.1)) as ∧ ReadsAll s.heap (es.map (·.val)) (kvs.map (·.2)) bs ∧ sysModules ∉ as ∧ sysModules ∉ bs
  | [], _, _, _, h, kv, pr => by
    cases h
    unfold KV at kv
    cases kv
    cases pr
    exact ⟨_, _, ReadsAll.nil, ReadsAll.nil, by simp, by simp⟩
  | (k, d) :: kvs, _, _, _, h, kv, pr => by
    cases h with
    | cons h1 h2 =>
      unfold KV at kv
      cases kv with
      | @cons _ q _ vs rr kv =>
        cases pr with
        | cons p1 p2 p3 =>
          obtain ⟨as, q1, n1⟩ := Dq.reads I d _ _ h1 rr.2
          obtain ⟨as', bs', q2, q3, n2, n3⟩ := DqK.reads I kvs _ _ _ h2 kv p3
          rw [← rr.1] at p1
          refine ⟨_, _, ReadsAll.cons (key_reads p1) q2, ReadsAll.cons (p2 ▸ q1) q3, by simpa using n2, by simp only [List.mem_append, not_or]; exact ⟨n1, n3⟩⟩
end
end
def rReprQ (K : PySem.W.Frag) : List V → Hp → VK → Prop := fun xs H Q => ∃ a d, xs = [.ref a] ∧ Dq K H (.ref a) d ∧ d.showable = true ∧ d.depth ≤ 60 ∧ d.shown.length ≤ sizeLine ∧ Q (.str d.shown) H
theorem cr_reprQ {X : Cx} (hg : X.A.guards = some []) (hu : X.A.units + 64 < cLine) : CallR X (.builtin "repr") (rReprQ X.K) := by
  intro pins s σ H xs us Q I r h
  obtain ⟨a, d, rfl, hd, hs, hdp, hz, q⟩ := h
  rw [Vals.ref1 r]
  obtain ⟨as, rd, hn⟩ := Dq.reads I d (.ref a) (.ref a) hd rfl
  refine repr_of_reads' rd hs (fun _ => hn) hg (by omega) (fun _ _ e => e) ?_ hz
  intro h' u tk hk
  exact ⟨.str _, H, I.kept hk, ⟨_, rfl⟩, q⟩
mutual
def toPyQ : D → Option PyData
  | .non => some .none
  | .bl b => some (.bool b)
  | .int i => some (.int i)
  | .str x => some (.str x)
  | .tup ds => (toPyQL ds).map .tuple
  | .dct _ kvs => (toPyQK kvs).map .dict
  | _ => none
def toPyQL : List D → Option (List PyData)
  | [] => some []
  | d :: ds => (toPyQ d).bind fun p => (toPyQL ds).map (p :: ·)
def toPyQK : List (D × D) → Option (List (PyData × PyData))
  | [] => some []
  | (k, d) :: r => match k with
    | .int i => (toPyQ d).bind fun p => (toPyQK r).map ((.int i, p) :: ·)
    | .str x => (toPyQ d).bind fun p => (toPyQK r).map ((.str x, p) :: ·)
    | _ => none
end
section
variable {C : Ct} {Z H : Hp}
mutual
theorem RdV.dq (zh : Same Z H) : ∀ (d : D) (v : V) (F : List Addr) (p : PyData), toPyQ d = some p → RdV C Z H d v F → Dq C.K H v p
  | .non, v, F, p, e, h => by rw [toPyQ] at e; cases e; rw [RdV] at h; rw [h.1]; exact .non
  | .bl b, v, F, p, e, h => by rw [toPyQ] at e; cases e; rw [RdV] at h; rw [h.1]; exact .bl b
  | .int b, v, F, p, e, h => by rw [toPyQ] at e; cases e; rw [RdV] at h; rw [h.1]; exact .int b
  | .str b, v, F, p, e, h => by rw [toPyQ] at e; cases e; rw [RdV] at h; rw [h.1]; exact .str b
  | .tup ds, v, F, p, e, h => by
    rw [toPyQ, Option.map_eq_some_iff] at e
    obtain ⟨ps, e, rfl⟩ := e
    obtain ⟨_, a, vs, rfl, h1, h2⟩ := h.tupP zh
    exact .tup h1 (RdL.dq zh ds vs [] ps e h2)
  | .dct o kvs, v, F, p, e, h => by
    rw [toPyQ, Option.map_eq_some_iff] at e
    obtain ⟨ps, e, rfl⟩ := e
    obtain ⟨a, us, G, rfl, h1, h2⟩ := h.dctP zh
    exact .dct h1 (RdK.dq zh kvs us G ps e h2)
  | .lst o ds, v, F, p, e, h => by simp [toPyQ] at e
  | .ins o c fs, v, F, p, e, h => by simp [toPyQ] at e
  | .set ks, v, F, p, e, h => by simp [toPyQ] at e
  | .scr ds, v, F, p, e, h => by simp [toPyQ] at e
theorem RdL.dq (zh : Same Z H) : ∀ (ds : List D) (vs : List V) (F : List Addr) (ps : List PyData), toPyQL ds = some ps → RdL C Z H ds vs F → DqA C.K H vs ps
  | [], vs, F, ps, e, h => by rw [toPyQL] at e; cases e; rw [RdL] at h; rw [h.1]; exact .nil
  | d :: ds, vs, F, ps, e, h => by
    rw [toPyQL, Option.bind_eq_some_iff] at e
    obtain ⟨p, e1, e⟩ := e
    rw [Option.map_eq_some_iff] at e
    obtain ⟨qs, e2, rfl⟩ := e
    rw [RdL] at h
    obtain ⟨v, r, F1, F2, rfl, rfl, h3, h4⟩ := h
    exact .cons (RdV.dq zh d v F1 p e1 h3) (RdL.dq zh ds r F2 qs e2 h4)
theorem RdK.dq (zh : Same Z H) : ∀ (kvs : List (D × D)) (us : List (Key × V)) (F : List Addr) (ps : List (PyData × PyData)), toPyQK kvs = some ps → RdK C Z H kvs us F → DqK C.K H us ps
  | [], us, F, ps, e, h => by rw [toPyQK] at e; cases e; rw [RdK] at h; rw [h.1]; exact .nil
  | (k, d) :: kvs, us, F, ps, e, h => by
    rw [RdK] at h
    obtain ⟨q, v, r, F1, F2, rfl, rfl, rfl, h3, h4⟩ := h
    cases q with
    | inl i =>
      have e : toPyQK ((.int i, d) :: kvs) = some ps := e
      rw [toPyQK] at e
      rw [Option.bind_eq_some_iff] at e
      obtain ⟨p, e1, e⟩ := e
      rw [Option.map_eq_some_iff] at e
      obtain ⟨qs, e2, rfl⟩ := e
      exact .cons (k := .inl i) (RdV.dq zh d v F1 p e1 h3) (RdK.dq zh kvs r F2 qs e2 h4)
    | inr i =>
      have e : toPyQK ((.str i, d) :: kvs) = some ps := e
      rw [toPyQK] at e
      rw [Option.bind_eq_some_iff] at e
      obtain ⟨p, e1, e⟩ := e
      rw [Option.map_eq_some_iff] at e
      obtain ⟨qs, e2, rfl⟩ := e
      exact .cons (k := .inr i) (RdV.dq zh d v F1 p e1 h3) (RdK.dq zh kvs r F2 qs e2 h4)
end
end
def isRefD : D → Bool
  | .tup _ => true
  | .dct _ _ => true
  | _ => false
def fReprQ : List D → Option D
  | [d] => match toPyQ d with
    | some p => if isRefD d && p.showable && decide (p.depth ≤ 60) && decide (p.shown.length ≤ sizeLine) then some (.str p.shown) else none
    | none => none
  | _ => none
def fReprU (ds : List D) : Option D := match fRepr ds with
  | some r => some r
  | none => fReprQ ds
theorem f_reprQ {C : Ct} : FnL C (rReprQ C.K) fReprQ := by
  intro ds vs Z H F Q e o ra hf p
  unfold fReprQ at hf
  split at hf
  · rename_i d
    split at hf
    · rename_i q hq
      split at hf
      · rename_i hc
        cases hf
        simp only [Bool.and_eq_true, decide_eq_true_eq] at hc
        obtain ⟨v, F1, rfl, hd⟩ := ra.one
        have h1 := RdV.dq o.zh d v F1 q hq hd
        have : ∃ a, v = .ref a := by
          cases d with
          | tup xs => obtain ⟨_, a, _, e, _⟩ := hd.tupP o.zh; exact ⟨a, e⟩
          | dct o' xs => obtain ⟨a, _, _, e, _⟩ := hd.dctP o.zh; exact ⟨a, e⟩
          | _ => simp [isRefD] at hc
        obtain ⟨a, rfl⟩ := this
        exact ⟨a, q, rfl, h1, hc.1.1.2, hc.1.2, hc.2, post_val o p (by rw [RdV]; exact ⟨rfl, rfl⟩)⟩
      · cases hf
    · cases hf
  · cases hf
def rReprU (K : PySem.W.Frag) : List V → Hp → VK → Prop := fun xs H Q => (∃ x d, xs = [x] ∧ Dp K H x d ∧ d.showable = true ∧ d.depth ≤ 60 ∧ d.shown.length ≤ sizeLine ∧ Q (.str d.shown) H) ∨ rReprQ K xs H Q
theorem o_reprU {X : Cx} (K : PySem.W.Frag) (hg : X.A.guards = some []) (hu : X.A.units + 64 < cLine) (h : X.K = K := by rfl) : CallR X (.builtin "repr") (rReprU K) := by
  subst h
  exact CallR.or (k_repr X.K hg hu) (cr_reprQ hg hu)
theorem f_reprU {C : Ct} : FnL C (rReprU C.K) fReprU := by
  intro ds vs Z H F Q e o ra hf p
  unfold fReprU at hf
  split at hf
  · rename_i r hr
    cases hf
    exact .inl (f_repr ds vs Z H F Q e o ra hr p)
  · exact .inr (f_reprQ ds vs Z H F Q e o ra hf p)
end Mi

set_option maxHeartbeats 4000000
set_option exponentiation.threshold 100000
namespace Mi
open PySem PySem.Spec PyProof.Rows L2 RZ Ov PpSet
local macro_rules | `(tactic| walk_at "ev") => `(tactic| simp -dsimp only [*, b_bo, b_b0, v_bo, v_b0, v_c, v_v, v_mv, v_vk, v_k, v_fk, v_nil, v_cons, v_1, v_2, v_L, v_bB, asB_b, v_bAnd, v_bOr, v_bNot, v_bYes, v_if, v_and, v_or, v_not, v_tup, v_lst, v_fld, asI_i, v_oN, v_oS, optI_i, v_sl, v_rg1, v_rg2, v_lrg, v_trg, chainK_b, v_chain,
  Fl.k_nx, Fl.k_rt, Fl.k_bk, Fl.k_ct, v_seq, v_pass, v_bk, v_ct, v_ret, v_retN, v_expr, v_sif, v_asg, optE_s, v_gN, v_gT, v_gsN, v_gsC, Option.bind_some, v_par, v_par3, v_aug, v_put, v_sfld, v_for, optL_s, v_iSeq, v_iOf, v_iStr, v_lc, v_mList, Rf.back_ok, optP_s, v_callF, v_call, v_aN, v_aE, v_aI, v_fN, v_fE, v_fI, optD_s, Option.map_some,
  v_kN, v_kE, v_kI, v_methE, v_methI, Rf.newB_ok, v_new, fin_rt, fin_nx, getR_s, liftK_s, R.ite_t, R.ite_f, List.getElem?_cons_zero, List.getElem?_cons_succ, List.set_cons_zero, List.set_cons_succ, List.map_cons, List.map_nil, List.cons_append, List.nil_append, List.replicate_succ, List.replicate_zero, k2_s, k3_s, insK_s, strK_s, mlK_s, optF_s, joinO_s, v_gp, v_gq, fldO_s, v_gf, setO_s, v_gs, optR_s, al_n, al_c, pi_t, pi_f, pi_n, wi_n, wi_c,
  add_i, sub_i, mod_i, div_i, pow_60, pow_18, lt_i, le_i, gt_i, ge_i, mul_i, is_n, nis_n, is_i, nis_i, is_t, nis_t, ix_t, ix_l, ix_s, set0, set1, set2, len_t, len_l, len_s, abs_i, int_i, int_b, sl_l, sl_t, fz_l, fz_t, fz_d, fz_i, seq_t, seq_l, zip_l, zip_t, enum_l, tuple_l, tuple_t, list_l, list_t, neg_i, isa_isInt_non, isa_isInt_bl, isa_isInt_int, isa_isInt_str, isa_isInt_tup, isa_isInt_lst, isa_isInt_scr, isa_isInt_dct, isa_isBool_non, isa_isBool_bl, isa_isBool_int, isa_isBool_str, isa_isBool_tup, isa_isBool_lst, isa_isBool_scr, isa_isBool_dct, isa_isStr_non, isa_isStr_bl, isa_isStr_int, isa_isStr_str, isa_isStr_tup, isa_isStr_lst, isa_isStr_scr, isa_isStr_dct, isa_isTuple_non, isa_isTuple_bl, isa_isTuple_int, isa_isTuple_str, isa_isTuple_tup, isa_isTuple_lst, isa_isTuple_scr, isa_isTuple_dct, isa_isList_non, isa_isList_bl, isa_isList_int, isa_isList_str, isa_isList_tup, isa_isList_lst, isa_isList_scr, isa_isList_dct, isa_isDict_non, isa_isDict_bl, isa_isDict_int, isa_isDict_str, isa_isDict_tup, isa_isDict_lst, isa_isDict_scr, isa_isDict_dct, eq_i, ne_i, eq_s, ne_s, fzn_1, fzn_2, fzn_3, fzn_4, fzn_5, fzn_6, fzn_7, fzn_8, fzn_9, fzn_s, fznL_n, fznL_c, fznK_n, fznK_c, fznF_n, fznF_c, sz0, sz1, sz2, sz3, sz4, sz5, sz6, sz7, sz8, pk1, pk2, pk3, pk4, fzL_n, fzL_c, fz_int, fz_bl, fz_str, fz_non, putD_n, putD_c, at0, at1, at2, at3, ix0, ix1, ix2, Bool.not_true, Bool.not_false, Bool.true_and, Bool.and_true, Bool.false_and, Bool.and_false, Bool.or_true, Bool.true_or, Bool.false_or, Bool.or_false, if_true, if_false, Bool.false_eq_true, decide_true, decide_false, and_self, and_true, true_and, not_true_eq_false, not_false_eq_true, ne_eq, false_and, and_false, eq_self])
local macro_rules | `(tactic| walk_at "env") => `(tactic| simp only [List.map_cons, List.map_nil, List.cons_append, List.nil_append, List.replicate_succ, List.replicate_zero])
local macro_rules | `(tactic| walk_at "ew") => `(tactic| simp -dsimp only [*, b_bo, b_b0, v_bo, v_b0, v_c, v_v, v_mv, v_vk, v_k, v_fk, v_nil, v_cons, v_1, v_2, v_L, v_bB, asB_b, v_bAnd, v_bOr, v_bNot, v_bYes, v_if, v_and, v_or, v_not, v_tup, v_lst, v_fld, asI_i, v_oN, v_oS, optI_i, v_sl, v_rg1, v_rg2, v_lrg, v_trg, chainK_b, v_chain,
  Fl.k_nx, Fl.k_rt, Fl.k_bk, Fl.k_ct, v_seq, v_pass, v_bk, v_ct, v_ret, v_retN, v_expr, v_sif, v_asg, optE_s, v_gN, v_gT, v_gsN, v_gsC, Option.bind_some, v_par, v_par3, v_aug, v_put, v_sfld, v_for, optL_s, v_iSeq, v_iOf, v_iStr, v_lc, v_mList, Rf.back_ok, optP_s, v_callF, v_call, v_aN, v_aE, v_aI, v_fN, v_fE, v_fI, optD_s, Option.map_some,
  v_kN, v_kE, v_kI, v_methE, v_methI, Rf.newB_ok, v_new, fin_rt, fin_nx, getR_s, liftK_s, R.ite_t, R.ite_f, List.getElem?_cons_zero, List.getElem?_cons_succ, List.set_cons_zero, List.set_cons_succ, List.map_cons, List.map_nil, List.cons_append, List.nil_append, List.replicate_succ, List.replicate_zero, k2_s, k3_s, insK_s, strK_s, mlK_s, optF_s, joinO_s, v_gp, v_gq, fldO_s, v_gf, setO_s, v_gs, optR_s, al_n, al_c, pi_t, pi_f, pi_n, wi_n, wi_c,
  add_i, sub_i, mod_i, div_i, pow_60, pow_18, lt_i, le_i, gt_i, ge_i, mul_i, is_n, nis_n, is_i, nis_i, is_t, nis_t, ix_t, ix_l, ix_s, set0, set1, set2, len_t, len_l, len_s, abs_i, int_i, int_b, sl_l, sl_t, fz_l, fz_t, fz_d, fz_i, seq_t, seq_l, zip_l, zip_t, enum_l, tuple_l, tuple_t, list_l, list_t, neg_i, isa_isInt_non, isa_isInt_bl, isa_isInt_int, isa_isInt_str, isa_isInt_tup, isa_isInt_lst, isa_isInt_scr, isa_isInt_dct, isa_isBool_non, isa_isBool_bl, isa_isBool_int, isa_isBool_str, isa_isBool_tup, isa_isBool_lst, isa_isBool_scr, isa_isBool_dct, isa_isStr_non, isa_isStr_bl, isa_isStr_int, isa_isStr_str, isa_isStr_tup, isa_isStr_lst, isa_isStr_scr, isa_isStr_dct, isa_isTuple_non, isa_isTuple_bl, isa_isTuple_int, isa_isTuple_str, isa_isTuple_tup, isa_isTuple_lst, isa_isTuple_scr, isa_isTuple_dct, isa_isList_non, isa_isList_bl, isa_isList_int, isa_isList_str, isa_isList_tup, isa_isList_lst, isa_isList_scr, isa_isList_dct, isa_isDict_non, isa_isDict_bl, isa_isDict_int, isa_isDict_str, isa_isDict_tup, isa_isDict_lst, isa_isDict_scr, isa_isDict_dct, eq_i, ne_i, eq_s, ne_s, fzn_1, fzn_2, fzn_3, fzn_4, fzn_5, fzn_6, fzn_7, fzn_8, fzn_9, fzn_s, fznL_n, fznL_c, fznK_n, fznK_c, fznF_n, fznF_c, sz0, sz1, sz2, sz3, sz4, sz5, sz6, sz7, sz8, pk1, pk2, pk3, pk4, fzL_n, fzL_c, fz_int, fz_bl, fz_str, fz_non, putD_n, putD_c, at0, at1, at2, at3, ix0, ix1, ix2, Bool.not_true, Bool.not_false, Bool.true_and, Bool.and_true, Bool.false_and, Bool.and_false, Bool.or_true, Bool.true_or, Bool.false_or, Bool.or_false, if_true, if_false, Bool.false_eq_true, decide_true, decide_false, and_self, and_true, true_and, not_true_eq_false, not_false_eq_true, ne_eq, false_and, and_false, eq_self, v_parN, po2, po3, po4, se_n, se_c, v_gUL, v_dnew, fi2_i, gdiv_i, gadd_i])
/-! ### repr of tuples and dicts by parts -/
structure Rq (n w : Nat) (d : D) : Prop where
  ex : ∃ p, toPyQ d = some p ∧ p.showable = true ∧ p.depth ≤ n ∧ p.shown.length + 2 ≤ 2002 * w
structure RqL (n w : Nat) (ds : List D) : Prop where
  ex : ∃ ps, toPyQL ds = some ps ∧ PyData.showableAll ps = true ∧ PyData.depthAll ps ≤ n ∧ piled (PyData.shownAll ps) ≤ 2002 * w
theorem Rq.le {n w n' w' : Nat} {d : D} (h : Rq n w d) (hn : n ≤ n') (hw : w ≤ w') : Rq n' w' d := by
  obtain ⟨p, h1, h2, h3, h4⟩ := h.ex
  exact ⟨p, h1, h2, by omega, Nat.le_trans h4 (Nat.mul_le_mul_left _ hw)⟩
theorem RqL.le {n w w' : Nat} {d : List D} (h : RqL n w d) (hw : w ≤ w') : RqL n w' d := by
  obtain ⟨p, h1, h2, h3, h4⟩ := h.ex
  exact ⟨p, h1, h2, h3, Nat.le_trans h4 (Nat.mul_le_mul_left _ hw)⟩
theorem rq_int {n : Nat} {i : Int} (h : i.natAbs < 2 ^ 1000) : Rq n 1 (.int i) :=
  ⟨.int i, by rw [toPyQ], show_int h, Nat.zero_le _, shown_le (.int i) 0 plain_int (show_int h)⟩
theorem rq_nat {n i : Nat} (h : i < 2 ^ 100) : Rq n 1 (.int (i : Int)) := rq_int (Nat.lt_trans (by simpa using h) (by decide))
theorem rq_non {n : Nat} : Rq n 1 .non := ⟨.none, by rw [toPyQ], rfl, Nat.zero_le _, by decide⟩
theorem rq_dct0 {n : Nat} {o : Bool} : Rq (n + 1) 1 (.dct o []) := ⟨.dict [], by rw [toPyQ, toPyQK]; rfl, rfl, by show 0 + 1 ≤ n + 1; omega, by decide⟩
theorem rql_nil {n : Nat} : RqL n 0 [] := ⟨[], by rw [toPyQL], rfl, Nat.zero_le _, by simp [PyData.shownAll, piled]⟩
theorem rql_cons {n a b : Nat} {d : D} {ds : List D} (h : Rq n a d) (t : RqL n b ds) : RqL n (a + b) (d :: ds) := by
  obtain ⟨p, h1, h2, h3, h4⟩ := h.ex
  obtain ⟨q, k1, k2, k3, k4⟩ := t.ex
  refine ⟨p :: q, by rw [toPyQL, h1, k1]; rfl, by simp only [PyData.showableAll, h2, k2]; rfl, ?_, ?_⟩
  · rw [PyData.depthAll]; omega
  · rw [PyData.shownAll, piled_cons, Nat.mul_add]; omega
theorem rql_all {n k : Nat} : ∀ {ds : List D}, (∀ d ∈ ds, Rq n k d) → RqL n (k * ds.length) ds
  | [], _ => rql_nil
  | d :: ds, h => by
    have h1 := rql_cons (h d (List.mem_cons_self ..)) (rql_all fun x hx => h x (List.mem_cons_of_mem _ hx))
    exact h1.le (by rw [List.length_cons, Nat.mul_add, Nat.mul_one]; omega)
theorem rq_tup {n w : Nat} {ds : List D} (h : RqL n w ds) : Rq (n + 1) (1 + w) (.tup ds) := by
  obtain ⟨q, k1, k2, k3, k4⟩ := h.ex
  refine ⟨.tuple q, by rw [toPyQ, k1]; rfl, k2, by show PyData.depthAll q + 1 ≤ n + 1; omega, ?_⟩
  have h2 := tupleText_le (PyData.shownAll q)
  show (tupleText (PyData.shownAll q)).length + 2 ≤ 2002 * (1 + w)
  omega
theorem repr_str {ds : List D} {r : D} (h : fRepr ds = some r) : ∃ x, r = .str x := by
  unfold fRepr at h
  split at h
  · split at h
    · split at h
      · exact ⟨_, (Option.some.inj h).symm⟩
      · cases h
    · cases h
  · cases h
theorem reprU_q {n w : Nat} {d : D} (h : Rq n w d) (hr : isRefD d = true) (hn : n ≤ 60) (hw : w ≤ 8000) : ∃ x, fReprU [d] = some (.str x) := by
  unfold fReprU
  cases e : fRepr [d] with
  | some r =>
    obtain ⟨x, rfl⟩ := repr_str e
    exact ⟨x, rfl⟩
  | none =>
    obtain ⟨p, h1, h2, h3, h4⟩ := h.ex
    have h5 : p.shown.length ≤ sizeLine := by
      have : 2002 * w ≤ 2002 * 8000 := Nat.mul_le_mul_left _ hw
      exact Nat.le_trans (by omega : p.shown.length ≤ 2002 * 8000) (by decide)
    have h6 : p.depth ≤ 60 := by omega
    refine ⟨p.shown, ?_⟩
    unfold fReprQ
    simp only [h1, hr, h2, decide_eq_true h5, decide_eq_true h6, Bool.and_self, if_true]
theorem reprU_p {n w : Nat} {d : D} (h : Rp n w d) (hn : n ≤ 60) (hw : w ≤ 8000) : ∃ x, fReprU [d] = some (.str x) := by
  obtain ⟨x, hx⟩ := h.repr hn hw
  exact ⟨x, by unfold fReprU; rw [hx]⟩
theorem all_bb {α : Type} {o : Bool} {l : List α} {f : α → Bool} : fAll [.lst o (l.map fun a => .bl (f a))] = some (.bl (l.all f)) := by
  have : ∀ l : List α, boolsD (l.map fun a => .bl (f a)) = some (l.map f) := by
    intro l
    induction l with
    | nil => rfl
    | cons a l ih => rw [List.map_cons, boolsD, ih]; rfl
  unfold fAll lBools
  simp only
  rw [this]
  simp
theorem app_one {ds : List D} {d : D} (h : ds.length ≤ 900) : fAppend ds [d] = some (.non, ds ++ [d]) := if_pos (Nat.lt_of_le_of_lt h (by decide))
theorem fin_min {ns : List Int} : ∃ v : Nat, fMin2 [.int 3, .int ((ns.map D.int).length : Nat)] = some (.int v) ∧ v ≤ 3 := by
  by_cases h : (((ns.map D.int).length : Nat) : Int) < 3
  · exact ⟨(ns.map D.int).length, by simp only [fMin2, h, if_true], by omega⟩
  · exact ⟨3, by simp only [fMin2, h, if_false]; rfl, by omega⟩
theorem fzL_map : ∀ ds : List D, fzL ds = ds.map fz
  | [] => rfl
  | d :: ds => by rw [fzL, List.map_cons, fzL_map ds]
theorem cut_from {α : Type} {xs : List α} {k : Nat} : cutA xs (some (k : Int)) none = xs.drop k := by
  unfold cutA
  have h1 : HT.sIx xs.length 0 (some (k : Int)) = min k xs.length := HT.sIx_nat ..
  have h2 : HT.sIx xs.length xs.length none = xs.length := rfl
  rw [h1, h2]
  rcases Nat.le_total k xs.length with g | g
  · rw [Nat.min_eq_left g]
    exact List.take_of_length_le (by simp)
  · rw [Nat.min_eq_right g, List.drop_length, List.drop_eq_nil_of_le g]
    simp
theorem add_tt {a b : List D} (h : a.length + b.length ≤ 900) : fAdd (.tup a) (.tup b) = some (.tup (a ++ b)) := if_pos (Nat.le_trans h (by decide))
end Mi

set_option maxHeartbeats 4000000
namespace Mi
open PySem PySem.Spec PyProof.Rows L2 RZ Ov PpSet
noncomputable def lb_l_deep_1 : MS :=
  (sAsg (gN 0) (eIf (bB (e2 fEq2 (e2 fMod (eV 1) (eC (.int 2))) (eC (.int 0)))) (eTup (lCons (eVk 0) lNil)) (eLst (lCons (eVk 0) lNil))))
noncomputable def lp_l_deep_1 : MS :=
  (sFor (iOf rng1 (lCons (eC (.int 28)) lNil)) (gN 1) lb_l_deep_1)
noncomputable def b_l_deep : MS :=
  (sSeq lp_l_deep_1
  (sRet (eMv 0)))
noncomputable def m_l_deep : Fun := fnOf 1 [false] b_l_deep
noncomputable def lb_l_expected_1 : MS :=
  (sIf (bOr (bNot (bB (e1 (fIsa Kd.isInt) (eV 2)))) (bOr (bB (e1 (fIsa Kd.isBool) (eV 2))) (bOr (bB (e2 fLt (eV 2) (eC (.int 0)))) (bB (e2 fGe (eV 2) (eV 0)))))) (sRet (eC (.bl false))) sPass)
noncomputable def lp_l_expected_1 : MS :=
  (sFor (iSeq (eVk 1)) (gN 2) lb_l_expected_1)
noncomputable def b_l_expected : MS :=
  (sSeq (sIf (bNot (bB (e1 (fIsa Kd.isTuple) (eV 1)))) (sRet (eC (.bl false))) sPass)
  (sSeq lp_l_expected_1
  (sRet (eC (.bl true)))))
noncomputable def m_l_expected : Fun := fnOf 1 [false, false] b_l_expected
noncomputable def ce_is_code_1 : ME :=
  (eCall m_is_integer [.e (eVk 2), .e (eC (.int 0)), .e (eFk (e2 fSub (eFld ["InstructionSet"] "byte_count" (eV 0)) (eC (.int 1))))])
noncomputable def cp_is_code_1 : ME :=
  (eLc (iSeq (eVk 1)) (gN 2) bYes ce_is_code_1 [2])
noncomputable def b_is_code : MS :=
  (sSeq (sIf (bNot (bB (e1 (fIsa Kd.isTuple) (eV 1)))) (sRet (eC (.bl false))) sPass)
  (sRet (eL fAll (lCons cp_is_code_1 lNil))))
noncomputable def m_is_code : Fun := fnOf 1 [false, false] b_is_code
noncomputable def lb_law_k04_1 : MS :=
  (sSeq (sAsg (gN 10) (eL fReprU (lCons (eV 9) lNil)))
  (sIf (bOr (bB (e2 fNe2 (eL fReprU (lCons (eCall m_is_code [.e (eVk 4), .e (eVk 9)]) lNil)) (eL fReprU (lCons (eCall m_l_expected [.e (eK (e2 fIx (eV 3) (eC (.int 0)))), .e (eVk 9)]) lNil)))) (bB (e2 fNe2 (eL fReprU (lCons (eV 9) lNil)) (eV 10)))) (sRet (eC (.bl false))) sPass))
noncomputable def lp_law_k04_1 : MS :=
  (sFor (iSeq (eVk 6)) (gN 9) lb_law_k04_1)
noncomputable def lb_law_k04_2 : MS :=
  (sSeq (sAsg (gN 8) (eCall m_l_take [.io 2, .e (eFk (e2 fAdd (eL fLen (lCons (eV 5) lNil)) (eC (.int 1))))]))
  (sExpr (mList (6, none) (lCons (e2 fAdd (e2 fAdd (eSl (eV 5) oN (oS (eV 8))) (eTup (lCons (eVk 7) lNil))) (eSl (eV 5) (oS (eV 8)) oN)) lNil) fAppend)))
noncomputable def lp_law_k04_2 : MS :=
  (sFor (iSeq (eLst (lCons (eK (e2 fIx (eV 3) (eC (.int 0)))) (lCons (e1 fNeg (eC (.int 1))) (lCons (eC (.bl true)) (lCons (eC (.bl false)) (lCons (eC (.str (PySem.Str.ofString "0"))) (lCons (eC .non) (lCons (eTup (lCons (eC (.int 0)) lNil)) (lCons (eLst lNil) (lCons (e2 fPow (eC (.int 10)) (eC (.int 30))) (lCons eDNew (lCons (e2 fSub (e2 fIx (eV 3) (eC (.int 0))) (eC (.int 1))) (lCons (eC (.int 0)) lNil)))))))))))))) (gN 7) lb_law_k04_2)
noncomputable def lb_law_k04_3 : MS :=
  (sSeq (sAsg (gN 2) (eCall m_l_box [.e (eVk 0), .e (eVk 1)]))
  (sSeq (sAsg (gN 3) (eCall m_l_table [.io 2, .e (eC (.int 256)), .e (eC (.int 12))]))
  (sSeq (sPar 4 5 (lCons (eNew "InstructionSet" m_InstructionSet_init [.e (eK (e2 fIx (eV 3) (eC (.int 0)))), .e (eK (e2 fIx (eV 3) (eC (.int 1))))]) (lCons (eCall m_l_bytes [.io 2, .e (eVk 3), .e (eFk (eCall m_l_take [.io 2, .e (eC (.int 31))]))]) lNil)))
  (sSeq (sAsg (gN 6) (eLst (lCons (eVk 5) (lCons (eL fList (lCons (eV 5) lNil)) (lCons (eTup lNil) (lCons (eLst lNil) (lCons (eC .non) (lCons (eC (.bl true)) (lCons (eC (.int 0)) (lCons (eC (.str (PySem.Str.ofString ""))) (lCons eDNew (lCons (eTup (lCons (eVk 5) lNil)) (lCons (eCall m_l_deep [.e (eVk 5)]) (lCons (e2 fAdd (eV 5) (eV 5)) lNil))))))))))))))
  (sSeq (sExpr (mList (6, none) (lCons (eTup (lCons (e2 fSub (e2 fIx (eV 3) (eC (.int 0))) (eC (.int 1))) lNil)) lNil) fAppend))
  (sSeq lp_law_k04_2
  (sSeq lp_law_k04_1
  (sIf (bB (e2 fNis (eCall (fKw [1, 0] 2 m_is_code) [.e (eVk 5), .e (eVk 4)]) (eC (.bl true)))) (sRet (eC (.bl false))) sPass))))))))
noncomputable def lp_law_k04_3 : MS :=
  (sFor (iOf rng1 (lCons (e2 fAdd (eC (.int 1)) (eL fMin2 (lCons (eC (.int 3)) (lCons (eL fLen (lCons (eV 0) lNil)) lNil)))) lNil)) (gN 1) lb_law_k04_3)
noncomputable def b_law_k04 : MS :=
  (sSeq lp_law_k04_3
  (sRet (eC (.bl true))))
noncomputable def m_law_k04 : Fun := fnOf 10 [false] b_law_k04
end Mi

set_option maxHeartbeats 4000000
namespace Mi
open PySem PySem.Spec PyProof.Rows L2 RZ Ov PpSet
def top (i : Nat) : Stmt := PySem.Challenge.pw_overlapcode_k04_codes_of_any_values.main.body.getD i (.Pass ⟨0, 0, 0, 0⟩)
abbrev s_l_box : Stmt := top 18
abbrev n_l_box : List Str := ["_law_script", "_law_k", "_law_cell", "_law_own"]
theorem sc_l_box : FnScope n_l_box ["_law_script", "_law_k"] (defScope s_l_box) := ⟨rfl, rfl, rfl, by decide +kernel, rfl, by decide +kernel, by decide +kernel⟩
abbrev s_l_take : Stmt := top 19
abbrev n_l_take : List Str := ["_law_box_here", "_law_many", "_law_digit", "_law_mixed"]
theorem sc_l_take : FnScope n_l_take ["_law_box_here", "_law_many"] (defScope s_l_take) := ⟨rfl, rfl, rfl, by decide +kernel, rfl, by decide +kernel, by decide +kernel⟩
abbrev s_is_integer : Stmt := top 10
abbrev n_is_integer : List Str := ["value", "low", "high"]
theorem sc_is_integer : FnScope n_is_integer ["value", "low", "high"] (defScope s_is_integer) := ⟨rfl, rfl, rfl, by decide +kernel, rfl, by decide +kernel, by decide +kernel⟩
abbrev s_is_ascending : Stmt := top 11
abbrev n_is_ascending : List Str := ["items", "item", "following"]
theorem sc_is_ascending : FnScope n_is_ascending ["items"] (defScope s_is_ascending) := ⟨rfl, rfl, rfl, by decide +kernel, rfl, by decide +kernel, by decide +kernel⟩
abbrev s_is_name : Stmt := top 12
abbrev n_is_name : List Str := ["value", "char"]
theorem sc_is_name : FnScope n_is_name ["value"] (defScope s_is_name) := ⟨rfl, rfl, rfl, by decide +kernel, rfl, by decide +kernel, by decide +kernel⟩
abbrev s_l_deep : Stmt := top 24
abbrev n_l_deep : List Str := ["_law_thing", "_law_turn"]
theorem sc_l_deep : FnScope n_l_deep ["_law_thing"] (defScope s_l_deep) := ⟨rfl, rfl, rfl, by decide +kernel, rfl, by decide +kernel, by decide +kernel⟩
abbrev s_l_expected : Stmt := top 23
abbrev n_l_expected : List Str := ["_law_count", "_law_thing", "_law_byte"]
theorem sc_l_expected : FnScope n_l_expected ["_law_count", "_law_thing"] (defScope s_l_expected) := ⟨rfl, rfl, rfl, by decide +kernel, rfl, by decide +kernel, by decide +kernel⟩
abbrev s_l_of : Stmt := top 20
abbrev n_l_of : List Str := ["_law_box_here", "_law_some"]
theorem sc_l_of : FnScope n_l_of ["_law_box_here", "_law_some"] (defScope s_l_of) := ⟨rfl, rfl, rfl, by decide +kernel, rfl, by decide +kernel, by decide +kernel⟩
abbrev s_is_instruction : Stmt := top 13
abbrev n_is_instruction : List Str := ["value", "byte_count", "opcode", "name", "length", "is_padding"]
theorem sc_is_instruction : FnScope n_is_instruction ["value", "byte_count"] (defScope s_is_instruction) := ⟨rfl, rfl, rfl, by decide +kernel, rfl, by decide +kernel, by decide +kernel⟩
abbrev s_is_code : Stmt := top 16
abbrev n_is_code : List Str := ["instruction_set", "value", "byte"]
theorem sc_is_code : FnScope n_is_code ["instruction_set", "value"] (defScope s_is_code) := ⟨rfl, rfl, rfl, by decide +kernel, rfl, by decide +kernel, by decide +kernel⟩
abbrev s_l_table : Stmt := top 21
abbrev n_l_table : List Str := ["_law_box_here", "_law_most_bytes", "_law_longest", "_law_count", "_law_many", "_law_opcodes", "_law_found", "_law_first", "_law_at", "_law_opcode", "_law_letter", "_law_name", "_law_length"]
theorem sc_l_table : FnScope n_l_table ["_law_box_here", "_law_most_bytes", "_law_longest"] (defScope s_l_table) := ⟨rfl, rfl, rfl, by decide +kernel, rfl, by decide +kernel, by decide +kernel⟩
abbrev s_are_instructions : Stmt := top 14
abbrev n_are_instructions : List Str := ["value", "byte_count", "names", "item"]
theorem sc_are_instructions : FnScope n_are_instructions ["value", "byte_count"] (defScope s_are_instructions) := ⟨rfl, rfl, rfl, by decide +kernel, rfl, by decide +kernel, by decide +kernel⟩
abbrev s_l_bytes : Stmt := top 22
abbrev n_l_bytes : List Str := ["_law_box_here", "_law_table_here", "_law_many", "_law_some", "_law_instruction", "_law_at"]
theorem sc_l_bytes : FnScope n_l_bytes ["_law_box_here", "_law_table_here", "_law_many"] (defScope s_l_bytes) := ⟨rfl, rfl, rfl, by decide +kernel, rfl, by decide +kernel, by decide +kernel⟩
abbrev s_InstructionSet_init : Stmt := inClass (top 15) 0
abbrev n_InstructionSet_init : List Str := ["self", "byte_count", "instructions", "instruction"]
theorem sc_InstructionSet_init : FnScope n_InstructionSet_init ["self", "byte_count", "instructions"] (defScope s_InstructionSet_init) := ⟨rfl, rfl, rfl, by decide +kernel, rfl, by decide +kernel, by decide +kernel⟩
abbrev s_law : Stmt := top 25
abbrev n_law : List Str := ["_law_script", "_law_k", "_law_box_here", "_law_table_here", "_law_home", "_law_code", "_law_things", "_law_odd", "_law_at", "_law_thing", "_law_kept"]
theorem sc_law : FnScope n_law ["_law_script"] (defScope s_law) := ⟨rfl, rfl, rfl, by decide +kernel, rfl, by decide +kernel, by decide +kernel⟩
structure TX (P : Program) (w : World) (K : PySem.W.Frag) (mg : Str → Option Value) (cls : String → Option Addr) : Prop where
  blt : Blt mg
  a_l_box : ∃ f fd, At K mg "_law_box" s_l_box f fd
  a_l_take : ∃ f fd, At K mg "_law_take" s_l_take f fd
  a_is_integer : ∃ f fd, At K mg "is_integer" s_is_integer f fd
  a_is_ascending : ∃ f fd, At K mg "is_ascending" s_is_ascending f fd
  a_is_name : ∃ f fd, At K mg "is_name" s_is_name f fd
  a_l_deep : ∃ f fd, At K mg "_law_deep" s_l_deep f fd
  a_l_expected : ∃ f fd, At K mg "_law_expected" s_l_expected f fd
  a_l_of : ∃ f fd, At K mg "_law_of" s_l_of f fd
  a_is_instruction : ∃ f fd, At K mg "is_instruction" s_is_instruction f fd
  a_is_code : ∃ f fd, At K mg "is_code" s_is_code f fd
  a_l_table : ∃ f fd, At K mg "_law_table" s_l_table f fd
  a_are_instructions : ∃ f fd, At K mg "are_instructions" s_are_instructions f fd
  a_l_bytes : ∃ f fd, At K mg "_law_bytes" s_l_bytes f fd
  k_InstructionSet : ∃ C, cls "InstructionSet" = some C ∧ Cls K C ∧ mg "InstructionSet" = some (.ref C) ∧ ∃ f fd, Mk K C f ∧ L2.Fun K "__init__" "InstructionSet.__init__" s_InstructionSet_init f fd
  c_LONGEST_NAME : ∃ u, mg "LONGEST_NAME" = some u ∧ RelV (.int 8) u
  c_LETTERS : ∃ u, mg "LETTERS" = some u ∧ RelV (.str (PySem.Str.ofString "abcdefghijklmnopqrstuvwxyz")) u
  c_LONGEST_INSTRUCTION : ∃ u, mg "LONGEST_INSTRUCTION" = some u ∧ RelV (.int 12) u
  c_LEAST_BYTE_COUNT : ∃ u, mg "LEAST_BYTE_COUNT" = some u ∧ RelV (.int 2) u
  c_GREATEST_BYTE_COUNT : ∃ u, mg "GREATEST_BYTE_COUNT" = some u ∧ RelV (.int 256) u
  f_byte_count : ∀ c ∈ ["InstructionSet"], FldOk ⟨K, cls, P, w⟩ c "byte_count"
  f_instructions : ∀ c ∈ ["InstructionSet"], FldOk ⟨K, cls, P, w⟩ c "instructions"
  f_by_opcode : ∀ c ∈ ["InstructionSet"], FldOk ⟨K, cls, P, w⟩ c "by_opcode"
section
variable {P : Program} {w : World} {K : PySem.W.Frag} {mg : Str → Option Value} {base : Heap} {cls : String → Option Addr}
theorem ok_l_box (T : TX P w K mg cls) : Cal P w K mg base CX0 1 "_law_box" ["_law_script", "_law_k"] (spM ⟨K, cls, P, w⟩ false [false, false] m_l_box) := by
  obtain ⟨f, fd, F⟩ := T.a_l_box
  refine cal_M (m := b_l_box) F (F.fn.binds (fun _ _ _ _ _ _ us hl => match us, hl with | [_, _], _ => rfl)) sc_l_box rfl rfl ?_
  intro cdv A outer s H E hr
  refine with_ag ⟨rfl, rfl, rfl⟩ fun ag => ?_
  exact (qss_cons (qs_set (i := 2) (q_ifx (q_tcmp op_lt f_lt (qv 1) (QE.t (q_callB (o_len _ ag.K ag.P ag.w) f_len T.blt.b_len PySem.boot_len (qta_cons (qv 0) qta_nil)))) (QT.k (q_ix ag hr.r.units (qv 0) (qv 1))) q_int) sc_l_box.nd)
    (qss_cons (qs_set (i := 3) (q_op (o_mul _ ag.K) f_mul (QE.t (q_op op_mod f_mod (QE.t (q_callB call_abs f_abs T.blt.b_abs (by decide +kernel) (qta_cons (qv 2) qta_nil))) (QE.t (q_op (o_mul _ ag.K) f_mul (QE.t (q_op (o_mul _ ag.K) f_mul (QE.t (q_op (o_mul _ ag.K) f_mul (QE.t (q_op op_pow f_pow (QE.t q_int) (QE.t q_int))) (QE.t (q_op op_pow f_pow (QE.t q_int) (QE.t q_int))))) (QE.t (q_op op_pow f_pow (QE.t q_int) (QE.t q_int))))) (QE.t (q_op op_pow f_pow (QE.t q_int) (QE.t q_int))))))) (QE.t (q_callT call_int1 f_int T.blt.b_int (by decide +kernel) (qta_cons (QE.t (q_cmp op_ge f_ge (QE.t (q_callB call_abs f_abs T.blt.b_abs (by decide +kernel) (qta_cons (qv 2) qta_nil))) (QE.t (q_op op_pow f_pow (QE.t q_int) (QE.t q_int))))) qta_nil)))) sc_l_box.nd)
    (qss_one (qs_ret (q_lst (qa_cons (qvk 3) (qa_cons (q_op op_mod f_mod (QE.t (q_op (o_mul _ ag.K) f_mul (QE.t (q_op (o_add _ ag.K) f_add (QE.t (q_op (o_add _ ag.K) f_add (QE.t (q_op op_mod f_mod (qv 2) (QE.t q_int))) (QE.t (q_op (o_mul _ ag.K) f_mul (QE.t (q_op (o_mul _ ag.K) f_mul (QE.t q_int) (qv 1))) (qv 1))))) (QE.t q_int))) (QE.t q_int))) (QE.t q_int)) (qa_cons q_int qa_nil))))))))
theorem ok_l_take (T : TX P w K mg cls) : Cal P w K mg base CX0 1 "_law_take" ["_law_box_here", "_law_many"] (spM ⟨K, cls, P, w⟩ false [true, false] m_l_take) := by
  obtain ⟨f, fd, F⟩ := T.a_l_take
  refine cal_M (m := b_l_take) F (F.fn.binds (fun _ _ _ _ _ _ us hl => match us, hl with | [_, _], _ => rfl)) sc_l_take rfl rfl ?_
  intro cdv A outer s H E hr
  refine with_ag ⟨rfl, rfl, rfl⟩ fun ag => ?_
  exact (qss_cons (qs_if (q_tcmp op_gt f_gt (q_ix ag hr.r.units (qv 0) (QE.t q_int)) (QE.t q_int)) (qss_cons (qs_set (i := 2) (q_op op_mod f_mod (q_ix ag hr.r.units (qv 0) (QE.t q_int)) (qv 1)) sc_l_take.nd)
    (qss_cons (qs_put hr.r.units (QE.fk (q_op op_fdivW f_div (q_ix ag hr.r.units (qv 0) (QE.t q_int)) (qv 1))) (qp_v 0) (QE.t q_int))
    (qss_one (qs_ret (qmv 2))))) qss_nil)
    (qss_cons (qs_put hr.r.units (QE.fk (q_op (o_add _ ag.K) f_add (q_ix ag hr.r.units (qv 0) (QE.t q_int)) (QE.t q_int))) (qp_v 0) (QE.t q_int))
    (qss_cons (qs_set (i := 3) (q_op op_mod f_mod (QE.t (q_op (o_mul _ ag.K) f_mul (QE.t (q_op (o_add _ ag.K) f_add (QE.t (q_op (o_add _ ag.K) f_add (q_ix ag hr.r.units (qv 0) (QE.t q_int)) (QE.t (q_op (o_mul _ ag.K) f_mul (QE.t (q_op (o_mul _ ag.K) f_mul (QE.t q_int) (q_ix ag hr.r.units (qv 0) (QE.t q_int)))) (q_ix ag hr.r.units (qv 0) (QE.t q_int)))))) (QE.t q_int))) (QE.t q_int))) (QE.t q_int)) sc_l_take.nd)
    (qss_cons (qs_set (i := 3) (q_op op_mod f_mod (QE.t (q_op (o_mul _ ag.K) f_mul (qv 3) (QE.t (q_op (o_add _ ag.K) f_add (QE.t (q_op op_mod f_mod (qv 3) (QE.t q_int))) (QE.t (q_op (o_mul _ ag.K) f_mul (QE.t q_int) (q_ix ag hr.r.units (qv 0) (QE.t q_int)))))))) (QE.t q_int)) sc_l_take.nd)
    (qss_one (qs_ret (q_op op_mod f_mod (QE.t (q_op (o_add _ ag.K) f_add (QE.t (q_op op_fdivW f_div (qv 3) (QE.t q_int))) (QE.t (q_op op_fdivW f_div (qv 3) (QE.t q_int))))) (qv 1))))))))
theorem ok_is_integer (T : TX P w K mg cls) : Cal P w K mg base CX0 1 "is_integer" ["value", "low", "high"] (spM ⟨K, cls, P, w⟩ false [false, false, false] m_is_integer) := by
  obtain ⟨f, fd, F⟩ := T.a_is_integer
  refine cal_M (m := b_is_integer) F (F.fn.binds (fun _ _ _ _ _ _ us hl => match us, hl with | [_, _, _], _ => rfl)) sc_is_integer rfl rfl ?_
  intro cdv A outer s H E hr
  refine with_ag ⟨rfl, rfl, rfl⟩ fun ag => ?_
  exact (qss_one (qs_ret (q_and (QE.t (q_isa (T := "int") (f := Kd.isInt) ag isa_int_k T.blt.b_isinstance T.blt.b_int (by decide +kernel) (qv 0))) (q_and (QE.t (q_not (QE.t (q_isa (T := "bool") (f := Kd.isBool) ag isa_bool_k T.blt.b_isinstance T.blt.b_bool (by decide +kernel) (qv 0))))) (q_one (q_chain op_le f_le op_le f_le (qv 1) (qv 0) (qv 2)))))))
theorem ok_is_ascending (T : TX P w K mg cls) : Cal P w K mg base CX0 1 "is_ascending" ["items"] (spM ⟨K, cls, P, w⟩ false [false] m_is_ascending) := by
  obtain ⟨f, fd, F⟩ := T.a_is_ascending
  refine cal_M (m := b_is_ascending) F (F.fn.binds (fun _ _ _ _ _ _ us hl => match us, hl with | [_], _ => rfl)) sc_is_ascending rfl rfl ?_
  intro cdv A outer s H E hr
  refine with_ag ⟨rfl, rfl, rfl⟩ fun ag => ?_
  exact (qss_one (qs_ret (q_callB (k_all _ rfl ag.K) f_all T.blt.b_all (by decide +kernel) (qta_cons (QE.t (q_lc (own := [("item", 1), ("following", 2)]) sc_is_ascending.nd (qi_zip ag T.blt.b_zip (QA.ta (qa_cons (qvk 0) (qa_cons (QE.fk (q_sl ag (qv 0) (qo_s (QE.t q_int)) qo_n)) qa_nil)))) (blkOk_by (own := [("item", 1), ("following", 2)]) (N := n_is_ascending) (sc := defScope s_is_ascending) (by decide +kernel)) (fun _ _ _ _ _ => (qg_t ag.blk (qgs_cons (qg_n 1 sc_is_ascending.nd) (qgs_cons (qg_n 2 sc_is_ascending.nd) qgs_nil)))) (fun _ _ _ _ _ => qts_nil) (fun _ _ _ _ _ => (q_cmp op_lt f_lt (qv 1) (qv 2))))) qta_nil))))
theorem ok_is_name (T : TX P w K mg cls) : Cal P w K mg base CX0 1 "is_name" ["value"] (spM ⟨K, cls, P, w⟩ false [false] m_is_name) := by
  obtain ⟨f, fd, F⟩ := T.a_is_name
  refine cal_M (m := b_is_name) F (F.fn.binds (fun _ _ _ _ _ _ us hl => match us, hl with | [_], _ => rfl)) sc_is_name rfl rfl ?_
  intro cdv A outer s H E hr
  refine with_ag ⟨rfl, rfl, rfl⟩ fun ag => ?_
  exact (qss_one (qs_ret (q_and (QE.t (q_isa (T := "str") (f := Kd.isStr) ag isa_str_k T.blt.b_isinstance T.blt.b_str (by decide +kernel) (qv 0))) (q_and (QE.t (q_chain op_le f_le op_le f_le (QE.t q_int) (QE.t (q_callB (o_len _ ag.K ag.P ag.w) f_len T.blt.b_len PySem.boot_len (qta_cons (qv 0) qta_nil))) (QE.t (q_gl T.c_LONGEST_NAME gl_int)))) (q_one (q_callB (k_all _ rfl ag.K) f_all T.blt.b_all (by decide +kernel) (qta_cons (QE.t (q_lc (own := [("char", 1)]) sc_is_name.nd (qi_str (qv 0)) (blkOk_by (own := [("char", 1)]) (N := n_is_name) (sc := defScope s_is_name) (by decide +kernel)) (fun _ _ _ _ _ => (qg_n 1 sc_is_name.nd)) (fun _ _ _ _ _ => qts_nil) (fun _ _ _ _ _ => (q_cmp (o_in _ hr.r.units ag.blk.K) f_in (qv 1) (QE.t (q_gl T.c_LETTERS gl_str)))))) qta_nil)))))))
theorem ok_l_deep (T : TX P w K mg cls) : Cal P w K mg base CX0 1 "_law_deep" ["_law_thing"] (spM ⟨K, cls, P, w⟩ false [false] m_l_deep) := by
  obtain ⟨f, fd, F⟩ := T.a_l_deep
  refine cal_M (m := b_l_deep) F (F.fn.binds (fun _ _ _ _ _ _ us hl => match us, hl with | [_], _ => rfl)) sc_l_deep rfl rfl ?_
  intro cdv A outer s H E hr
  refine with_ag ⟨rfl, rfl, rfl⟩ fun ag => ?_
  exact (qss_cons (qs_for PassesOwn.never (qi_rng1 T.blt.b_range (qta_cons (QE.t q_int) qta_nil)) (qg_n 1 sc_l_deep.nd) (qss_one (qs_set (i := 0) (q_ifx (q_tcmp (o_eqU _ hr.r.units ag.K) f_eq2 (QE.t (q_op op_mod f_mod (qv 1) (QE.t q_int))) (QE.t q_int)) (q_tup (qa_cons (qvk 0) qa_nil)) (q_lst (qa_cons (qvk 0) qa_nil))) sc_l_deep.nd)))
    (qss_one (qs_ret (qmv 0))))
theorem ok_l_expected (T : TX P w K mg cls) : Cal P w K mg base CX0 1 "_law_expected" ["_law_count", "_law_thing"] (spM ⟨K, cls, P, w⟩ false [false, false] m_l_expected) := by
  obtain ⟨f, fd, F⟩ := T.a_l_expected
  refine cal_M (m := b_l_expected) F (F.fn.binds (fun _ _ _ _ _ _ us hl => match us, hl with | [_, _], _ => rfl)) sc_l_expected rfl rfl ?_
  intro cdv A outer s H E hr
  refine with_ag ⟨rfl, rfl, rfl⟩ fun ag => ?_
  exact (qss_cons (qs_if (q_tnot (q_tval (QE.t (q_isa (T := "tuple") (f := Kd.isTuple) ag isa_tuple_k T.blt.b_isinstance T.blt.b_tuple (by decide +kernel) (qv 1))))) (qss_one (qs_ret q_bl)) qss_nil)
    (qss_cons (qs_for PassesOwn.never (qi_seq ag (qvk 1)) (qg_n 2 sc_l_expected.nd) (qss_one (qs_if (QW.t (q_wor (q_tnot (q_tval (QE.t (q_isa (T := "int") (f := Kd.isInt) ag isa_int_k T.blt.b_isinstance T.blt.b_int (by decide +kernel) (qv 2))))) (q_wor (q_tval (QE.t (q_isa (T := "bool") (f := Kd.isBool) ag isa_bool_k T.blt.b_isinstance T.blt.b_bool (by decide +kernel) (qv 2)))) (q_wor (q_tcmp op_lt f_lt (qv 2) (QE.t q_int)) (q_wor1 (q_tcmp op_ge f_ge (qv 2) (qv 0))))))) (qss_one (qs_ret q_bl)) qss_nil)))
    (qss_one (qs_ret q_bl))))
theorem ok_l_of (T : TX P w K mg cls) : Cal P w K mg base CX0 2 "_law_of" ["_law_box_here", "_law_some"] (spM ⟨K, cls, P, w⟩ false [true, false] m_l_of) := by
  obtain ⟨f, fd, F⟩ := T.a_l_of
  refine cal_M (m := b_l_of) F (F.fn.binds (fun _ _ _ _ _ _ us hl => match us, hl with | [_, _], _ => rfl)) sc_l_of rfl rfl ?_
  intro cdv A outer s H E hr
  refine with_ag ⟨rfl, rfl, rfl⟩ fun ag => ?_
  exact (qss_one (qs_ret (QT.k (q_ixk ag hr.r.units (qvk 1) (QE.t (q_call (ok_l_take T) hr (qm_io 0 (qm_e (QE.fk (q_callB (o_len _ ag.K ag.P ag.w) f_len T.blt.b_len PySem.boot_len (qta_cons (qv 1) qta_nil))) qm_nil))))))))
theorem ok_is_instruction (T : TX P w K mg cls) : Cal P w K mg base CX0 2 "is_instruction" ["value", "byte_count"] (spM ⟨K, cls, P, w⟩ false [false, false] m_is_instruction) := by
  obtain ⟨f, fd, F⟩ := T.a_is_instruction
  refine cal_M (m := b_is_instruction) F (F.fn.binds (fun _ _ _ _ _ _ us hl => match us, hl with | [_, _], _ => rfl)) sc_is_instruction rfl rfl ?_
  intro cdv A outer s H E hr
  refine with_ag ⟨rfl, rfl, rfl⟩ fun ag => ?_
  exact (qss_cons (qs_if (QW.t (q_wor (q_tnot (q_tval (QE.t (q_isa (T := "tuple") (f := Kd.isTuple) ag isa_tuple_k T.blt.b_isinstance T.blt.b_tuple (by decide +kernel) (qv 0))))) (q_wor1 (q_tcmp (o_neU _ hr.r.units ag.K) f_ne2 (QE.t (q_callB (o_len _ ag.K ag.P ag.w) f_len T.blt.b_len PySem.boot_len (qta_cons (qv 0) qta_nil))) (QE.t q_int))))) (qss_one (qs_ret q_bl)) qss_nil)
    (qss_cons (qs_asg (qvk 0) (qg_t ag (qgs_cons (qg_n 2 sc_is_instruction.nd) (qgs_cons (qg_n 3 sc_is_instruction.nd) (qgs_cons (qg_n 4 sc_is_instruction.nd) (qgs_cons (qg_n 5 sc_is_instruction.nd) qgs_nil))))))
    (qss_cons (qs_if (QW.t (q_wor (q_tnot (q_tval (QE.t (q_call (ok_is_integer T) hr (qm_e (qvk 2) (qm_e q_int (qm_e (QE.fk (q_op op_sub f_sub (qv 1) (QE.t q_int))) qm_nil))))))) (q_wor1 (q_tnot (q_tval (QE.t (q_call (ok_is_name T) hr (qm_e (qvk 3) qm_nil)))))))) (qss_one (qs_ret q_bl)) qss_nil)
    (qss_one (qs_ret (q_and (QE.t (q_call (ok_is_integer T) hr (qm_e (qvk 4) (qm_e q_int (qm_e (q_gl T.c_LONGEST_INSTRUCTION gl_int) qm_nil))))) (q_one (q_isa (T := "bool") (f := Kd.isBool) ag isa_bool_k T.blt.b_isinstance T.blt.b_bool (by decide +kernel) (qv 5)))))))))
theorem ok_is_code (T : TX P w K mg cls) : Cal P w K mg base CX0 2 "is_code" ["instruction_set", "value"] (spM ⟨K, cls, P, w⟩ false [false, false] m_is_code) := by
  obtain ⟨f, fd, F⟩ := T.a_is_code
  refine cal_M (m := b_is_code) F (F.fn.binds (fun _ _ _ _ _ _ us hl => match us, hl with | [_, _], _ => rfl)) sc_is_code rfl rfl ?_
  intro cdv A outer s H E hr
  refine with_ag ⟨rfl, rfl, rfl⟩ fun ag => ?_
  exact (qss_cons (qs_if (q_tnot (q_tval (QE.t (q_isa (T := "tuple") (f := Kd.isTuple) ag isa_tuple_k T.blt.b_isinstance T.blt.b_tuple (by decide +kernel) (qv 1))))) (qss_one (qs_ret q_bl)) qss_nil)
    (qss_one (qs_ret (q_callB (k_all _ rfl ag.K) f_all T.blt.b_all (by decide +kernel) (qta_cons (QE.t (q_lc (own := [("byte", 2)]) sc_is_code.nd (qi_seq ag (qvk 1)) (blkOk_by (own := [("byte", 2)]) (N := n_is_code) (sc := defScope s_is_code) (by decide +kernel)) (fun _ _ _ _ _ => (qg_n 2 sc_is_code.nd)) (fun _ _ _ _ _ => qts_nil) (fun _ _ _ _ _ => (q_call (ok_is_integer T) hr (qm_e (qvk 2) (qm_e q_int (qm_e (QE.fk (q_op op_sub f_sub (q_fld (cs := ["InstructionSet"]) (f := "byte_count") ag.blk T.f_byte_count (qv 0)) (QE.t q_int))) qm_nil))))))) qta_nil)))))
theorem okk_is_code_10 (T : TX P w K mg cls) : CalK P w K mg base CX0 2 "is_code" ["instruction_set", "value"] ["value", "instruction_set"] (gK .none [1, 0] 2) (gK .non [1, 0] 2) (spM ⟨K, cls, P, w⟩ false [false, false] m_is_code) := by
  obtain ⟨f, fd, F⟩ := T.a_is_code
  refine Cal.kw (ok_is_code T) F (fun _ _ _ _ _ _ us ws h => ?_) gK_rel
  obtain ⟨rfl, hl⟩ := gK_len (m := 2) h (by decide)
  match ws, hl with
  | [_, _], _ => rfl
theorem ok_l_table (T : TX P w K mg cls) : Cal P w K mg base CX0 3 "_law_table" ["_law_box_here", "_law_most_bytes", "_law_longest"] (spM ⟨K, cls, P, w⟩ false [true, false, false] m_l_table) := by
  obtain ⟨f, fd, F⟩ := T.a_l_table
  refine cal_M (m := b_l_table) F (F.fn.binds (fun _ _ _ _ _ _ us hl => match us, hl with | [_, _, _], _ => rfl)) sc_l_table rfl rfl ?_
  intro cdv A outer s H E hr
  refine with_ag ⟨rfl, rfl, rfl⟩ fun ag => ?_
  exact (qss_cons (qs_set (i := 3) (q_opk (o_add _ ag.K) f_add q_int (QE.t (q_call (ok_l_take T) hr (qm_io 0 (qm_e (QE.fk (q_op op_sub f_sub (qv 1) (QE.t q_int))) qm_nil))))) sc_l_table.nd)
    (qss_cons (qs_par (i := 4) (j := 5) (qa_cons (q_opk (o_add _ ag.K) f_add q_int (QE.t (q_call (ok_l_take T) hr (qm_io 0 (qm_e (QE.fk (q_callB (call_min2 rfl) f_min2 T.blt.b_min (by decide +kernel) (qta_cons (QE.t q_int) (qta_cons (qv 3) qta_nil)))) qm_nil))))) (qa_cons (q_lrg T.blt.b_list (q_rg1 T.blt.b_range (qv 3))) qa_nil)) sc_l_table.nd)
    (qss_cons (qs_if (QW.t (q_wand (q_tcmp op_gt f_gt (qv 3) (QE.t q_int)) (q_wand1 (q_tcmp (o_eqU _ hr.r.units ag.K) f_eq2 (QE.t (q_op op_mod f_mod (qv 3) (QE.t q_int))) (QE.t q_int))))) (qss_one (qs_set (i := 4) (q_op (o_add _ ag.K) f_add (QE.t q_int) (QE.t (q_op op_fdivW f_div (qv 3) (QE.t q_int)))) sc_l_table.nd)) qss_nil)
    (qss_cons (qs_while PassesOwn.never (q_tcmp op_gt f_gt (QE.t (q_callB (o_len _ ag.K ag.P ag.w) f_len T.blt.b_len PySem.boot_len (qta_cons (qv 5) qta_nil))) (qv 4)) (qss_one (qs_expr (QE.t (q_lm ag PySem.F.slot_list_pop PySem.F.type_list_pop mt_popAt m_popAt (qp_v 5) (qa_cons (q_call (ok_l_take T) hr (qm_io 0 (qm_e (QE.fk (q_callB (o_len _ ag.K ag.P ag.w) f_len T.blt.b_len PySem.boot_len (qta_cons (qv 5) qta_nil))) qm_nil))) qa_nil))))))
    (qss_cons (qs_par (i := 6) (j := 7) (qa_cons (q_lst qa_nil) (qa_cons (q_call (ok_l_take T) hr (qm_io 0 (qm_e q_int qm_nil))) qa_nil)) sc_l_table.nd)
    (qss_cons (qs_for PassesOwn.never (qi_enum ag T.blt.b_enumerate (QA.ta (qa_cons (qvk 5) qa_nil))) (qg_t ag (qgs_cons (qg_n 8 sc_l_table.nd) (qgs_cons (qg_n 9 sc_l_table.nd) qgs_nil))) (qss_cons (qs_set (i := 10) (QT.k (q_ix ag hr.r.units (QE.t q_str) (QE.t (q_op op_mod f_mod (QE.t (q_op (o_add _ ag.K) f_add (qv 7) (QE.t (q_op (o_mul _ ag.K) f_mul (QE.t q_int) (qv 8))))) (QE.t q_int))))) sc_l_table.nd)
    (qss_cons (qs_set (i := 11) (q_op (o_add _ ag.K) f_add (QE.t (q_opk (o_mul _ ag.K) f_mul (qvk 10) (QE.t (q_opk (o_add _ ag.K) f_add q_int (QE.t (q_call (ok_l_take T) hr (qm_io 0 (qm_e q_int qm_nil)))))))) (QE.t (q_op (o_mul _ ag.K) f_mul (QE.t (q_ifx (q_tcmp (o_eqU _ hr.r.units ag.K) f_eq2 (qv 10) (QE.t q_str)) q_str q_str)) (QE.t (q_op op_fdivW f_div (qv 8) (QE.t q_int)))))) sc_l_table.nd)
    (qss_cons (qs_set (i := 12) (q_call (ok_l_of T) hr (qm_io 0 (qm_e (QE.fk (q_lst (qa_cons q_int (qa_cons q_int (qa_cons q_int (qa_cons (q_opk (o_add _ ag.K) f_add q_int (QE.t (q_call (ok_l_take T) hr (qm_io 0 (qm_e (qvk 2) qm_nil))))) qa_nil)))))) qm_nil))) sc_l_table.nd)
    (qss_one (qs_expr (QE.t (q_lm ag PySem.F.slot_list_append PySem.F.type_list_append mt_append m_append (qp_v 6) (qa_cons (q_tup (qa_cons (qvk 9) (qa_cons (qvk 11) (qa_cons (q_callB (call_min2 rfl) f_min2 T.blt.b_min (by decide +kernel) (qta_cons (qv 12) (qta_cons (qv 2) qta_nil))) (qa_cons (q_or (QE.t (q_cmp (o_eqU _ hr.r.units ag.K) f_eq2 (qv 8) (QE.t q_int))) (q_one (q_cmp (o_eqU _ hr.r.units ag.K) f_eq2 (QE.t (q_call (ok_l_take T) hr (qm_io 0 (qm_e q_int qm_nil)))) (QE.t q_int)))) qa_nil))))) qa_nil)))))))))
    (qss_one (qs_ret (q_tup (qa_cons (qvk 3) (qa_cons (q_callT (o_tuple _ ag.K) f_tuple T.blt.b_tuple (by decide +kernel) (qta_cons (qv 6) qta_nil)) qa_nil)))))))))))
theorem ok_are_instructions (T : TX P w K mg cls) : Cal P w K mg base CX0 3 "are_instructions" ["value", "byte_count"] (spM ⟨K, cls, P, w⟩ false [false, false] m_are_instructions) := by
  obtain ⟨f, fd, F⟩ := T.a_are_instructions
  refine cal_M (m := b_are_instructions) F (F.fn.binds (fun _ _ _ _ _ _ us hl => match us, hl with | [_, _], _ => rfl)) sc_are_instructions rfl rfl ?_
  intro cdv A outer s H E hr
  refine with_ag ⟨rfl, rfl, rfl⟩ fun ag => ?_
  exact (qss_cons (qs_if (QW.t (q_wor (q_tnot (q_tval (QE.t (q_isa (T := "tuple") (f := Kd.isTuple) ag isa_tuple_k T.blt.b_isinstance T.blt.b_tuple (by decide +kernel) (qv 0))))) (q_wor1 (q_tcmp (o_eqU _ hr.r.units ag.K) f_eq2 (qv 0) (QE.t (q_tup qa_nil)))))) (qss_one (qs_ret q_bl)) qss_nil)
    (qss_cons (qs_if (q_tnot (q_tval (QE.t (q_callB (k_all _ rfl ag.K) f_all T.blt.b_all (by decide +kernel) (qta_cons (QE.t (q_lc (own := [("item", 3)]) sc_are_instructions.nd (qi_seq ag (qvk 0)) (blkOk_by (own := [("item", 3)]) (N := n_are_instructions) (sc := defScope s_are_instructions) (by decide +kernel)) (fun _ _ _ _ _ => (qg_n 3 sc_are_instructions.nd)) (fun _ _ _ _ _ => qts_nil) (fun _ _ _ _ _ => (q_call (ok_is_instruction T) hr (qm_e (qvk 3) (qm_e (qvk 1) qm_nil)))))) qta_nil))))) (qss_one (qs_ret q_bl)) qss_nil)
    (qss_cons (qs_setSc (i := 2) ag (own := [("item", 3)]) sc_are_instructions.nd (qi_seq ag (qvk 0)) (blkOk_by (own := [("item", 3)]) (N := n_are_instructions) (sc := defScope s_are_instructions) (by decide +kernel)) (fun _ _ _ _ _ => (qg_n 3 sc_are_instructions.nd)) (fun _ _ _ _ _ => qts_nil) (fun _ _ _ _ _ => (QT.k (q_ix ag.blk hr.r.units (qv 3) (QE.t q_int)))) (sw_set rfl rfl rfl (by decide +kernel)))
    (qss_one (qs_ret (q_and (QE.t (q_call (ok_is_ascending T) hr (qm_e (QE.fk (q_lc (own := [("item", 3)]) sc_are_instructions.nd (qi_seq ag (qvk 0)) (blkOk_by (own := [("item", 3)]) (N := n_are_instructions) (sc := defScope s_are_instructions) (by decide +kernel)) (fun _ _ _ _ _ => (qg_n 3 sc_are_instructions.nd)) (fun _ _ _ _ _ => qts_nil) (fun _ _ _ _ _ => (QT.k (q_ix ag.blk hr.r.units (qv 3) (QE.t q_int)))))) qm_nil))) (q_one (q_cmp (o_eqU _ hr.r.units ag.K) f_eq2 (QE.t (q_callB (o_len _ ag.K ag.P ag.w) f_len T.blt.b_len PySem.boot_len (qta_cons (qv 2) qta_nil))) (QE.t (q_callB (o_len _ ag.K ag.P ag.w) f_len T.blt.b_len PySem.boot_len (qta_cons (qv 0) qta_nil)))))))))))
theorem ok_l_bytes (T : TX P w K mg cls) : Cal P w K mg base CX0 3 "_law_bytes" ["_law_box_here", "_law_table_here", "_law_many"] (spM ⟨K, cls, P, w⟩ false [true, false, false] m_l_bytes) := by
  obtain ⟨f, fd, F⟩ := T.a_l_bytes
  refine cal_M (m := b_l_bytes) F (F.fn.binds (fun _ _ _ _ _ _ us hl => match us, hl with | [_, _, _], _ => rfl)) sc_l_bytes rfl rfl ?_
  intro cdv A outer s H E hr
  refine with_ag ⟨rfl, rfl, rfl⟩ fun ag => ?_
  exact (qss_cons (qs_set (i := 3) (q_lc (own := [("_law_instruction", 4)]) sc_l_bytes.nd (qi_seq ag (QT.k (q_ix ag hr.r.units (qv 1) (QE.t q_int)))) (blkOk_by (own := [("_law_instruction", 4)]) (N := n_l_bytes) (sc := defScope s_l_bytes) (by decide +kernel)) (fun _ _ _ _ _ => (qg_n 4 sc_l_bytes.nd)) (fun _ _ _ _ _ => qts_nil) (fun _ _ _ _ _ => (QT.k (q_ix ag.blk hr.r.units (qv 4) (QE.t q_int))))) sc_l_bytes.nd)
    (qss_one (qs_ret (q_callT (o_tuple _ ag.K) f_tuple T.blt.b_tuple (by decide +kernel) (qta_cons (QE.t (q_lc (own := [("_law_at", 5)]) sc_l_bytes.nd (qi_rng1 T.blt.b_range (qta_cons (qv 2) qta_nil)) (blkOk_by (own := [("_law_at", 5)]) (N := n_l_bytes) (sc := defScope s_l_bytes) (by decide +kernel)) (fun _ _ _ _ _ => (qg_n 5 sc_l_bytes.nd)) (fun _ _ _ _ _ => qts_nil) (fun _ _ _ _ _ => (q_ifx (q_tcmp op_gt f_gt (QE.t (q_call (ok_l_take T) hr (qm_io 0 (qm_e q_int qm_nil)))) (QE.t q_int)) (q_call (ok_l_of T) hr (qm_io 0 (qm_e (qvk 3) qm_nil))) (q_call (ok_l_take T) hr (qm_io 0 (qm_e (QT.k (q_ix ag.blk hr.r.units (qv 1) (QE.t q_int))) qm_nil))))))) qta_nil)))))
theorem ok_InstructionSet_init (T : TX P w K mg cls) : MakX P w K mg base cls 4 "InstructionSet" ["self", "byte_count", "instructions"] (spM ⟨K, cls, P, w⟩ false [true, false, false] m_InstructionSet_init) := by
  obtain ⟨C, hC, cl, mC, hmk⟩ := T.k_InstructionSet
  obtain ⟨f, fd, M, F⟩ := hmk
  refine ⟨C, hC, mak_M (m := b_InstructionSet_init) M mC F (F.binds (fun _ _ _ _ _ _ us hl => match us, hl with | [_, _, _], _ => rfl)) sc_InstructionSet_init rfl rfl ?_⟩
  intro cdv A outer s H E hr
  refine with_ag ⟨rfl, rfl, rfl⟩ fun ag => ?_
  exact (qss_cons (qs_if (q_tnot (q_tval (QE.t (q_call (ok_is_integer T) hr (qm_e (qvk 1) (qm_e (q_gl T.c_LEAST_BYTE_COUNT gl_int) (qm_e (q_gl T.c_GREATEST_BYTE_COUNT gl_int) qm_nil))))))) (qss_one qs_never) qss_nil)
    (qss_cons (qs_if (q_tnot (q_tval (QE.t (q_call (ok_are_instructions T) hr (qm_e (qvk 2) (qm_e (qvk 1) qm_nil)))))) (qss_one qs_never) qss_nil)
    (qss_cons (qs_fld (i := 0) (cs := ["InstructionSet"]) (f := "byte_count") ag T.f_byte_count (qvk 1))
    (qss_cons (qs_fld (i := 0) (cs := ["InstructionSet"]) (f := "instructions") ag T.f_instructions (qvk 2))
    (qss_one (qs_fld (i := 0) (cs := ["InstructionSet"]) (f := "by_opcode") ag T.f_by_opcode (q_dc (own := [("instruction", 3)]) sc_InstructionSet_init.nd (qi_seq ag (qvk 2)) (blkOk_by (own := [("instruction", 3)]) (N := n_InstructionSet_init) (sc := defScope s_InstructionSet_init) (by decide +kernel)) (fun _ _ _ _ _ => (qg_n 3 sc_InstructionSet_init.nd)) (fun _ _ _ _ _ => qts_nil) (fun _ _ _ _ _ => (QT.k (q_ix ag.blk hr.r.units (qv 3) (QE.t q_int)))) (fun _ _ _ _ _ => (qvk 3)))))))))
theorem qb_law (T : TX P w K mg cls) {f : Addr} : QBody P w K mg base cls 5 "law" s_law f n_law [false] b_law_k04 := by
  intro cdv A outer s H E hr
  refine with_ag ⟨rfl, rfl, rfl⟩ fun ag => ?_
  exact (qss_cons (qs_for PassesOwn.never (qi_rng1 T.blt.b_range (qta_cons (QE.t (q_op (o_add _ ag.K) f_add (QE.t q_int) (QE.t (q_callB (call_min2 rfl) f_min2 T.blt.b_min (by decide +kernel) (qta_cons (QE.t q_int) (qta_cons (QE.t (q_callB (o_len _ ag.K ag.P ag.w) f_len T.blt.b_len PySem.boot_len (qta_cons (qv 0) qta_nil))) qta_nil)))))) qta_nil)) (qg_n 1 sc_law.nd) (qss_cons (qs_set (i := 2) (q_call (ok_l_box T) hr (qm_e (qvk 0) (qm_e (qvk 1) qm_nil))) sc_law.nd)
    (qss_cons (qs_set (i := 3) (q_call (ok_l_table T) hr (qm_io 2 (qm_e q_int (qm_e q_int qm_nil)))) sc_law.nd)
    (qss_cons (qs_par (i := 4) (j := 5) (qa_cons (x_new (ok_InstructionSet_init T) hr (qm_e (QT.k (q_ix ag hr.r.units (qv 3) (QE.t q_int))) (qm_e (QT.k (q_ix ag hr.r.units (qv 3) (QE.t q_int))) qm_nil))) (qa_cons (q_call (ok_l_bytes T) hr (qm_io 2 (qm_e (qvk 3) (qm_e (QE.fk (q_call (ok_l_take T) hr (qm_io 2 (qm_e q_int qm_nil)))) qm_nil)))) qa_nil)) sc_law.nd)
    (qss_cons (qs_set (i := 6) (q_lst (qa_cons (qvk 5) (qa_cons (q_callT (k_list _ ag.K) f_list T.blt.b_list (by decide +kernel) (qta_cons (qv 5) qta_nil)) (qa_cons (q_tup qa_nil) (qa_cons (q_lst qa_nil) (qa_cons q_non (qa_cons q_bl (qa_cons q_int (qa_cons q_str (qa_cons q_dnew (qa_cons (q_tup (qa_cons (qvk 5) qa_nil)) (qa_cons (q_call (ok_l_deep T) hr (qm_e (qvk 5) qm_nil)) (qa_cons (q_op (o_add _ ag.K) f_add (qv 5) (qv 5)) qa_nil))))))))))))) sc_law.nd)
    (qss_cons (qs_expr (QE.t (q_lm ag PySem.F.slot_list_append PySem.F.type_list_append mt_append m_append (qp_v 6) (qa_cons (q_tup (qa_cons (q_op op_sub f_sub (q_ix ag hr.r.units (qv 3) (QE.t q_int)) (QE.t q_int)) qa_nil)) qa_nil))))
    (qss_cons (qs_for PassesOwn.never (qi_seq ag (q_lst (qa_cons (QT.k (q_ix ag hr.r.units (qv 3) (QE.t q_int))) (qa_cons (q_neg (QE.t q_int)) (qa_cons q_bl (qa_cons q_bl (qa_cons q_str (qa_cons q_non (qa_cons (q_tup (qa_cons q_int qa_nil)) (qa_cons (q_lst qa_nil) (qa_cons (q_op op_pow f_pow (QE.t q_int) (QE.t q_int)) (qa_cons q_dnew (qa_cons (q_op op_sub f_sub (q_ix ag hr.r.units (qv 3) (QE.t q_int)) (QE.t q_int)) (qa_cons q_int qa_nil)))))))))))))) (qg_n 7 sc_law.nd) (qss_cons (qs_set (i := 8) (q_call (ok_l_take T) hr (qm_io 2 (qm_e (QE.fk (q_op (o_add _ ag.K) f_add (QE.t (q_callB (o_len _ ag.K ag.P ag.w) f_len T.blt.b_len PySem.boot_len (qta_cons (qv 5) qta_nil))) (QE.t q_int))) qm_nil))) sc_law.nd)
    (qss_one (qs_expr (QE.t (q_lm ag PySem.F.slot_list_append PySem.F.type_list_append mt_append m_append (qp_v 6) (qa_cons (q_op (o_add _ ag.K) f_add (QE.t (q_op (o_add _ ag.K) f_add (QE.t (q_sl ag (qv 5) qo_n (qo_s (qv 8)))) (QE.t (q_tup (qa_cons (qvk 7) qa_nil))))) (QE.t (q_sl ag (qv 5) (qo_s (qv 8)) qo_n))) qa_nil)))))))
    (qss_cons (qs_for PassesOwn.never (qi_seq ag (qvk 6)) (qg_n 9 sc_law.nd) (qss_cons (qs_set (i := 10) (q_callB (o_reprU _ hr.g hr.r.units ag.K) f_reprU T.blt.b_repr (by decide +kernel) (qta_cons (qv 9) qta_nil)) sc_law.nd)
    (qss_one (qs_if (QW.t (q_wor (q_tcmpk (o_neU _ hr.r.units ag.K) f_ne2 (q_callB (o_reprU _ hr.g hr.r.units ag.K) f_reprU T.blt.b_repr (by decide +kernel) (qta_cons (QE.t (q_call (ok_is_code T) hr (qm_e (qvk 4) (qm_e (qvk 9) qm_nil)))) qta_nil)) (QE.t (q_callB (o_reprU _ hr.g hr.r.units ag.K) f_reprU T.blt.b_repr (by decide +kernel) (qta_cons (QE.t (q_call (ok_l_expected T) hr (qm_e (QT.k (q_ix ag hr.r.units (qv 3) (QE.t q_int))) (qm_e (qvk 9) qm_nil)))) qta_nil)))) (q_wor1 (q_tcmp (o_neU _ hr.r.units ag.K) f_ne2 (QE.t (q_callB (o_reprU _ hr.g hr.r.units ag.K) f_reprU T.blt.b_repr (by decide +kernel) (qta_cons (qv 9) qta_nil))) (qv 10))))) (qss_one (qs_ret q_bl)) qss_nil))))
    (qss_one (qs_if (q_tcmp o_nis f_nis (QE.t (q_callK (okk_is_code_10 T) hr (qk_e (qvk 5) (qk_e (qvk 4) qk_nil)))) (QE.t q_bl)) (qss_one (qs_ret q_bl)) qss_nil))))))))))
    (qss_one (qs_ret q_bl)))
end
end Mi

set_option maxHeartbeats 4000000
set_option exponentiation.threshold 100000
namespace Mi
open PySem PySem.Spec PyProof.Rows L2 RZ Ov PpSet
local macro_rules | `(tactic| walk_at "ev") => `(tactic| simp -dsimp only [*, b_bo, b_b0, v_bo, v_b0, v_c, v_v, v_mv, v_vk, v_k, v_fk, v_nil, v_cons, v_1, v_2, v_L, v_bB, asB_b, v_bAnd, v_bOr, v_bNot, v_bYes, v_if, v_and, v_or, v_not, v_tup, v_lst, v_fld, asI_i, v_oN, v_oS, optI_i, v_sl, v_rg1, v_rg2, v_lrg, v_trg, chainK_b, v_chain,
  Fl.k_nx, Fl.k_rt, Fl.k_bk, Fl.k_ct, v_seq, v_pass, v_bk, v_ct, v_ret, v_retN, v_expr, v_sif, v_asg, optE_s, v_gN, v_gT, v_gsN, v_gsC, Option.bind_some, v_par, v_par3, v_aug, v_put, v_sfld, v_for, optL_s, v_iSeq, v_iOf, v_iStr, v_lc, v_mList, Rf.back_ok, optP_s, v_callF, v_call, v_aN, v_aE, v_aI, v_fN, v_fE, v_fI, optD_s, Option.map_some,
  v_kN, v_kE, v_kI, v_methE, v_methI, Rf.newB_ok, v_new, fin_rt, fin_nx, getR_s, liftK_s, R.ite_t, R.ite_f, List.getElem?_cons_zero, List.getElem?_cons_succ, List.set_cons_zero, List.set_cons_succ, List.map_cons, List.map_nil, List.cons_append, List.nil_append, List.replicate_succ, List.replicate_zero, k2_s, k3_s, insK_s, strK_s, mlK_s, optF_s, joinO_s, v_gp, v_gq, fldO_s, v_gf, setO_s, v_gs, optR_s, al_n, al_c, pi_t, pi_f, pi_n, wi_n, wi_c,
  add_i, sub_i, mod_i, div_i, pow_60, pow_18, lt_i, le_i, gt_i, ge_i, mul_i, is_n, nis_n, is_i, nis_i, is_t, nis_t, ix_t, ix_l, ix_s, set0, set1, set2, len_t, len_l, len_s, abs_i, int_i, int_b, sl_l, sl_t, fz_l, fz_t, fz_d, fz_i, seq_t, seq_l, zip_l, zip_t, enum_l, tuple_l, tuple_t, list_l, list_t, neg_i, isa_isInt_non, isa_isInt_bl, isa_isInt_int, isa_isInt_str, isa_isInt_tup, isa_isInt_lst, isa_isInt_scr, isa_isInt_dct, isa_isBool_non, isa_isBool_bl, isa_isBool_int, isa_isBool_str, isa_isBool_tup, isa_isBool_lst, isa_isBool_scr, isa_isBool_dct, isa_isStr_non, isa_isStr_bl, isa_isStr_int, isa_isStr_str, isa_isStr_tup, isa_isStr_lst, isa_isStr_scr, isa_isStr_dct, isa_isTuple_non, isa_isTuple_bl, isa_isTuple_int, isa_isTuple_str, isa_isTuple_tup, isa_isTuple_lst, isa_isTuple_scr, isa_isTuple_dct, isa_isList_non, isa_isList_bl, isa_isList_int, isa_isList_str, isa_isList_tup, isa_isList_lst, isa_isList_scr, isa_isList_dct, isa_isDict_non, isa_isDict_bl, isa_isDict_int, isa_isDict_str, isa_isDict_tup, isa_isDict_lst, isa_isDict_scr, isa_isDict_dct, eq_i, ne_i, eq_s, ne_s, fzn_1, fzn_2, fzn_3, fzn_4, fzn_5, fzn_6, fzn_7, fzn_8, fzn_9, fzn_s, fznL_n, fznL_c, fznK_n, fznK_c, fznF_n, fznF_c, sz0, sz1, sz2, sz3, sz4, sz5, sz6, sz7, sz8, pk1, pk2, pk3, pk4, fzL_n, fzL_c, fz_int, fz_bl, fz_str, fz_non, putD_n, putD_c, at0, at1, at2, at3, ix0, ix1, ix2, Bool.not_true, Bool.not_false, Bool.true_and, Bool.and_true, Bool.false_and, Bool.and_false, Bool.or_true, Bool.true_or, Bool.false_or, Bool.or_false, if_true, if_false, Bool.false_eq_true, decide_true, decide_false, and_self, and_true, true_and, not_true_eq_false, not_false_eq_true, ne_eq, false_and, and_false, eq_self])
local macro_rules | `(tactic| walk_at "env") => `(tactic| simp only [List.map_cons, List.map_nil, List.cons_append, List.nil_append, List.replicate_succ, List.replicate_zero])
local macro_rules | `(tactic| walk_at "ew") => `(tactic| simp -dsimp only [*, b_bo, b_b0, v_bo, v_b0, v_c, v_v, v_mv, v_vk, v_k, v_fk, v_nil, v_cons, v_1, v_2, v_L, v_bB, asB_b, v_bAnd, v_bOr, v_bNot, v_bYes, v_if, v_and, v_or, v_not, v_tup, v_lst, v_fld, asI_i, v_oN, v_oS, optI_i, v_sl, v_rg1, v_rg2, v_lrg, v_trg, chainK_b, v_chain,
  Fl.k_nx, Fl.k_rt, Fl.k_bk, Fl.k_ct, v_seq, v_pass, v_bk, v_ct, v_ret, v_retN, v_expr, v_sif, v_asg, optE_s, v_gN, v_gT, v_gsN, v_gsC, Option.bind_some, v_par, v_par3, v_aug, v_put, v_sfld, v_for, optL_s, v_iSeq, v_iOf, v_iStr, v_lc, v_mList, Rf.back_ok, optP_s, v_callF, v_call, v_aN, v_aE, v_aI, v_fN, v_fE, v_fI, optD_s, Option.map_some,
  v_kN, v_kE, v_kI, v_methE, v_methI, Rf.newB_ok, v_new, fin_rt, fin_nx, getR_s, liftK_s, R.ite_t, R.ite_f, List.getElem?_cons_zero, List.getElem?_cons_succ, List.set_cons_zero, List.set_cons_succ, List.map_cons, List.map_nil, List.cons_append, List.nil_append, List.replicate_succ, List.replicate_zero, k2_s, k3_s, insK_s, strK_s, mlK_s, optF_s, joinO_s, v_gp, v_gq, fldO_s, v_gf, setO_s, v_gs, optR_s, al_n, al_c, pi_t, pi_f, pi_n, wi_n, wi_c,
  add_i, sub_i, mod_i, div_i, pow_60, pow_18, lt_i, le_i, gt_i, ge_i, mul_i, is_n, nis_n, is_i, nis_i, is_t, nis_t, ix_t, ix_l, ix_s, set0, set1, set2, len_t, len_l, len_s, abs_i, int_i, int_b, sl_l, sl_t, fz_l, fz_t, fz_d, fz_i, seq_t, seq_l, zip_l, zip_t, enum_l, tuple_l, tuple_t, list_l, list_t, neg_i, isa_isInt_non, isa_isInt_bl, isa_isInt_int, isa_isInt_str, isa_isInt_tup, isa_isInt_lst, isa_isInt_scr, isa_isInt_dct, isa_isBool_non, isa_isBool_bl, isa_isBool_int, isa_isBool_str, isa_isBool_tup, isa_isBool_lst, isa_isBool_scr, isa_isBool_dct, isa_isStr_non, isa_isStr_bl, isa_isStr_int, isa_isStr_str, isa_isStr_tup, isa_isStr_lst, isa_isStr_scr, isa_isStr_dct, isa_isTuple_non, isa_isTuple_bl, isa_isTuple_int, isa_isTuple_str, isa_isTuple_tup, isa_isTuple_lst, isa_isTuple_scr, isa_isTuple_dct, isa_isList_non, isa_isList_bl, isa_isList_int, isa_isList_str, isa_isList_tup, isa_isList_lst, isa_isList_scr, isa_isList_dct, isa_isDict_non, isa_isDict_bl, isa_isDict_int, isa_isDict_str, isa_isDict_tup, isa_isDict_lst, isa_isDict_scr, isa_isDict_dct, eq_i, ne_i, eq_s, ne_s, fzn_1, fzn_2, fzn_3, fzn_4, fzn_5, fzn_6, fzn_7, fzn_8, fzn_9, fzn_s, fznL_n, fznL_c, fznK_n, fznK_c, fznF_n, fznF_c, sz0, sz1, sz2, sz3, sz4, sz5, sz6, sz7, sz8, pk1, pk2, pk3, pk4, fzL_n, fzL_c, fz_int, fz_bl, fz_str, fz_non, putD_n, putD_c, at0, at1, at2, at3, ix0, ix1, ix2, Bool.not_true, Bool.not_false, Bool.true_and, Bool.and_true, Bool.false_and, Bool.and_false, Bool.or_true, Bool.true_or, Bool.false_or, Bool.or_false, if_true, if_false, Bool.false_eq_true, decide_true, decide_false, and_self, and_true, true_and, not_true_eq_false, not_false_eq_true, ne_eq, false_and, and_false, eq_self, v_parN, po2, po3, po4, se_n, se_c, v_gUL, v_dnew, fi2_i, gdiv_i, gadd_i])
/-! ### is_code of any value -/
def isDat : D → Bool
  | .ins _ _ _ => false
  | .set _ => false
  | .scr _ => false
  | _ => true
def okI (hi : Int) : D → Bool
  | .int i => decide (0 ≤ i) && decide (i ≤ hi)
  | _ => false
theorem isint_any {hi : Int} {d : D} (hd : isDat d = true) : m_is_integer [d, .int 0, .int hi] = .ok (.bl (okI hi d)) [] := by
  unfold m_is_integer b_is_integer
  rw [v_fn]
  cases d with
  | non => walk_at "ew"; rfl
  | bl b => walk_at "ew"; rfl
  | str x => walk_at "ew"; rfl
  | tup x => walk_at "ew"; rfl
  | lst o x => walk_at "ew"; rfl
  | dct o x => walk_at "ew"; rfl
  | int i =>
    show _ = Rf.ok (.bl (decide (0 ≤ i) && decide (i ≤ hi))) []
    by_cases h : 0 ≤ i
    · walk_at "ew"
    · walk_at "ew"
  | ins o c f => cases hd
  | set x => cases hd
  | scr x => cases hd
theorem is_code_tup {c : Nat} {rs : List Row} {ds : List D} (hd : ∀ d ∈ ds, isDat d = true) (hz : fznL ds = true) (hl : ds.length ≤ 900) : m_is_code [machD false c rs, .tup ds] = .ok (.bl (ds.all (okI ((c : Int) - 1)))) [] := by
  have hzm := fzn_mach (c := c) (rs := rs)
  have f1 := @fld_bc c rs false
  have hz2 := fz_sameL _ hz
  have hc : cp_is_code_1 [some (machD false c rs), some (.tup ds), none] = .ok (.lst true (ds.map fun d => .bl (okI ((c : Int) - 1) d))) [some (machD false c rs), some (.tup ds), none] := by
    unfold cp_is_code_1
    refine eLc_map ds id _ (e := [some (machD false c rs), some (.tup ds), none]) ?_ rfl (Nat.le_trans hl (by decide)) fun d hdm => ⟨[some (machD false c rs), some (.tup ds), some d], rfl, ?_, rfl⟩
    · rw [List.map_id]
      clear hd hl f1
      walk_at "ew"
    · have h1 := isint_any (hi := (c : Int) - 1) (hd d hdm)
      have h2 : fzn d = true := by
        have := List.all_eq_true.mp (show ds.all fzn = true from ?_) d hdm
        · exact this
        · clear hd hl f1 hz2 h1 hdm
          induction ds with
          | nil => rfl
          | cons a ds ih => rw [fznL, Bool.and_eq_true] at hz; rw [List.all_cons, hz.1, ih hz.2]; rfl
      clear hd hl hz hz2 hdm
      unfold ce_is_code_1
      walk_at "ew"
  have ha := all_bb (o := true) (l := ds) (f := okI ((c : Int) - 1))
  generalize (ds.map fun d => D.bl (okI ((c : Int) - 1) d)) = T1 at *
  generalize ds.all (okI ((c : Int) - 1)) = B at *
  clear hd hl hz hz2 f1
  unfold m_is_code b_is_code
  rw [v_fn]
  walk_at "ew"
theorem expected_tup {c : Nat} {ds : List D} (hd : ∀ d ∈ ds, isDat d = true) (hz : fznL ds = true) : m_l_expected [.int c, .tup ds] = .ok (.bl (ds.all (okI ((c : Int) - 1)))) [] := by
  have hz2 := fz_sameL _ hz
  have key : ∀ (l : List D) (x : Option D), (∀ d ∈ l, isDat d = true) → ∃ e', forL (gN 2) lb_l_expected_1 l [some (.int c), some (.tup ds), x] = .ok (if l.all (okI ((c : Int) - 1)) then .nx else .rt (.bl false)) e' := by
    intro l
    induction l with
    | nil => intro x _; exact ⟨_, rfl⟩
    | cons d l ih =>
      intro x hl
      have hg : gN 2 d [some (.int c), some (.tup ds), x] = some [some (.int c), some (.tup ds), some d] := rfl
      have hs : lb_l_expected_1 [some (.int c), some (.tup ds), some d] = .ok (if okI ((c : Int) - 1) d then .nx else .rt (.bl false)) [some (.int c), some (.tup ds), some d] := by
        have hdd := hl d (List.mem_cons_self ..)
        clear ih hg hl hd hz hz2
        unfold lb_l_expected_1
        cases d with
        | non => walk_at "ew"; rfl
        | bl b => walk_at "ew"; rfl
        | str x => walk_at "ew"; rfl
        | tup x => walk_at "ew"; rfl
        | lst o x => walk_at "ew"; rfl
        | dct o x => walk_at "ew"; rfl
        | int i =>
          show _ = R.ok (if (decide (0 ≤ i) && decide (i ≤ (c : Int) - 1)) = true then Fl.nx else Fl.rt (.bl false)) [some (.int c), some (.tup ds), some (.int i)]
          by_cases h : i < 0
          · have h1 : ¬ 0 ≤ i := by omega
            walk_at "ew"
          · have h1 : 0 ≤ i := by omega
            by_cases h2 : (c : Int) ≤ i
            · have h3 : ¬ i ≤ (c : Int) - 1 := by omega
              walk_at "ew"
            · have h3 : i ≤ (c : Int) - 1 := by omega
              walk_at "ew"
        | ins o c f => cases hdd
        | set x => cases hdd
        | scr x => cases hdd
      rw [List.all_cons]
      cases ho : okI ((c : Int) - 1) d with
      | true =>
        rw [ho] at hs
        obtain ⟨e', he⟩ := ih (some d) fun q hq => hl q (List.mem_cons_of_mem _ hq)
        exact ⟨e', by rw [for_cons hg hs]; exact he⟩
      | false =>
        rw [ho] at hs
        exact ⟨_, by rw [for_ret hg hs]; rfl⟩
  obtain ⟨e', he⟩ := key ds none hd
  have hlp : lp_l_expected_1 [some (.int c), some (.tup ds), none] = .ok (if ds.all (okI ((c : Int) - 1)) then .nx else .rt (.bl false)) e' := by
    rw [← he]
    unfold lp_l_expected_1
    clear key he hd
    walk_at "ew"
  clear key he hd hz hz2
  generalize ds.all (okI ((c : Int) - 1)) = B at *
  unfold m_l_expected b_l_expected
  rw [v_fn]
  walk_at "env"
  refine fin_seq (e := [some (.int c), some (.tup ds), none]) (by clear hlp; walk_at "ew") ?_
  cases B with
  | true =>
    refine fin_seq hlp ?_
    clear hlp
    walk_at "ew"
  | false =>
    refine fin_ret hlp ?_
    clear hlp
    walk_at "ew"
theorem no_tup {c : Nat} {rs : List Row} {d : D} (hd : isDat d = true) (hn : fIsa Kd.isTuple d = some (.bl false)) : m_is_code [machD false c rs, d] = .ok (.bl false) [] ∧ m_l_expected [.int c, d] = .ok (.bl false) [] := by
  constructor
  · unfold m_is_code b_is_code
    rw [v_fn]
    walk_at "ew"
  · unfold m_l_expected b_l_expected
    rw [v_fn]
    walk_at "ew"
/-! ### what is asked of a value -/
structure Thing (c : Nat) (rs : List Row) (t : D) : Prop where
  z : fzn t = true
  rep : ∃ x, fReprU [t] = some (.str x)
  ask : ∃ v, m_is_code [machD false c rs, t] = .ok (.bl v) [] ∧ m_l_expected [.int c, t] = .ok (.bl v) []
theorem thing_tup {c : Nat} {rs : List Row} {ds : List D} (hd : ∀ d ∈ ds, isDat d = true) (hz : fznL ds = true) (hl : ds.length ≤ 900) (hr : ∃ x, fReprU [.tup ds] = some (.str x)) : Thing c rs (.tup ds) :=
  ⟨by simpa [fzn] using hz, hr, _, is_code_tup hd hz hl, expected_tup hd hz⟩
theorem thing_no {c : Nat} {rs : List Row} {d : D} (hz : fzn d = true) (hd : isDat d = true) (hn : fIsa Kd.isTuple d = some (.bl false)) (hr : ∃ x, fReprU [d] = some (.str x)) : Thing c rs d :=
  ⟨hz, hr, false, (no_tup (rs := rs) hd hn).1, (no_tup (rs := rs) hd hn).2⟩
/-! ### deep values -/
def deepF (d : D) : Nat → D
  | 0 => d
  | k + 1 => if k % 2 = 0 then .tup [deepF d k] else .lst false [deepF d k]
theorem fzn_deep {d : D} (h : fzn d = true) : ∀ k, fzn (deepF d k) = true
  | 0 => h
  | k + 1 => by
    unfold deepF
    split
    · simp [fzn, fznL, fzn_deep h k]
    · simp [fzn, fznL, fzn_deep h k]
theorem deep_spec {d : D} (hd : fzn d = true) : ∃ x, m_l_deep [d] = .ok x [] ∧ fz x = deepF d 28 := by
  obtain ⟨e', h1, x, y, rfl, h2⟩ := for_inv (g := gN 1) (m := lb_l_deep_1) ((List.range 28).map fun k : Nat => .int (k : Int)) (fun i env => ∃ (x : D) (y : Option D), env = [some x, y] ∧ fz x = deepF d i) (by
    rintro i q _ hq ⟨x, y, rfl, h2⟩
    have hi : i < 28 := by
      rcases Nat.lt_or_ge i 28 with g | g
      · exact g
      · rw [List.getElem?_eq_none (by simpa using g)] at hq; cases hq
    rw [List.getElem?_map, List.getElem?_range hi] at hq
    cases hq
    have zf : fzn (fz x) = true := by rw [h2]; exact fzn_deep hd i
    have p2 : (0 : Int) < 2 := by decide
    by_cases e : i % 2 = 0
    · have e1 : (i : Int) % 2 = 0 := by omega
      refine ⟨_, [some (.tup [fz x]), some (.int i)], rfl, .inl ?_, _, _, rfl, ?_⟩
      · unfold lb_l_deep_1
        cases hz : fzn x with
        | true =>
          rw [fz_same _ hz] at *
          clear h2 hi e hd zf
          walk_at "ew"
        | false =>
          clear h2 hi e hd
          walk_at "ew"
      · rw [fz_same _ (by simp [fzn, fznL, zf])]
        unfold deepF
        rw [if_pos e, h2]
    · have e1 : ¬ (i : Int) % 2 = 0 := by omega
      refine ⟨_, [some (.lst true [fz x]), some (.int i)], rfl, .inl ?_, _, _, rfl, ?_⟩
      · unfold lb_l_deep_1
        cases hz : fzn x with
        | true =>
          rw [fz_same _ hz] at *
          clear h2 hi e hd zf
          walk_at "ew"
        | false =>
          clear h2 hi e hd
          walk_at "ew"
      · unfold deepF
        rw [if_neg e, ← h2]
        simp [fz, fzL, fz_same _ zf]) (env := [some d, none]) ⟨d, none, rfl, fz_same _ hd⟩
  simp only [List.length_map, List.length_range] at h2
  refine ⟨x, ?_, h2⟩
  have hlp : lp_l_deep_1 [some d, none] = .ok .nx [some x, y] := by
    rw [← h1]
    unfold lp_l_deep_1
    have er := rng1_n (j := 28) (by omega)
    have ei : ((28 : Nat) : Int) = 28 := rfl
    rw [ei] at er
    clear h1 h2 hd ei
    walk_at "ew"
  clear h1 h2 hd
  unfold m_l_deep b_l_deep
  rw [v_fn]
  walk_at "ew"
theorem rp_deep {d : D} {n w : Nat} (h : Rp n w d) : ∀ k, Rp (n + k) (w + k) (deepF d k)
  | 0 => h
  | k + 1 => by
    have := rp_deep h k
    unfold deepF
    split
    · exact (rp_tup (rpl_cons this rpl_nil)).le (by omega)
    · exact (rp_lst (rpl_cons this rpl_nil)).le (by omega)
end Mi

set_option maxHeartbeats 4000000
set_option exponentiation.threshold 100000
namespace Mi
open PySem PySem.Spec PyProof.Rows L2 RZ Ov PpSet
local macro_rules | `(tactic| walk_at "ev") => `(tactic| simp -dsimp only [*, b_bo, b_b0, v_bo, v_b0, v_c, v_v, v_mv, v_vk, v_k, v_fk, v_nil, v_cons, v_1, v_2, v_L, v_bB, asB_b, v_bAnd, v_bOr, v_bNot, v_bYes, v_if, v_and, v_or, v_not, v_tup, v_lst, v_fld, asI_i, v_oN, v_oS, optI_i, v_sl, v_rg1, v_rg2, v_lrg, v_trg, chainK_b, v_chain,
  Fl.k_nx, Fl.k_rt, Fl.k_bk, Fl.k_ct, v_seq, v_pass, v_bk, v_ct, v_ret, v_retN, v_expr, v_sif, v_asg, optE_s, v_gN, v_gT, v_gsN, v_gsC, Option.bind_some, v_par, v_par3, v_aug, v_put, v_sfld, v_for, optL_s, v_iSeq, v_iOf, v_iStr, v_lc, v_mList, Rf.back_ok, optP_s, v_callF, v_call, v_aN, v_aE, v_aI, v_fN, v_fE, v_fI, optD_s, Option.map_some,
  v_kN, v_kE, v_kI, v_methE, v_methI, Rf.newB_ok, v_new, fin_rt, fin_nx, getR_s, liftK_s, R.ite_t, R.ite_f, List.getElem?_cons_zero, List.getElem?_cons_succ, List.set_cons_zero, List.set_cons_succ, List.map_cons, List.map_nil, List.cons_append, List.nil_append, List.replicate_succ, List.replicate_zero, k2_s, k3_s, insK_s, strK_s, mlK_s, optF_s, joinO_s, v_gp, v_gq, fldO_s, v_gf, setO_s, v_gs, optR_s, al_n, al_c, pi_t, pi_f, pi_n, wi_n, wi_c,
  add_i, sub_i, mod_i, div_i, pow_60, pow_18, lt_i, le_i, gt_i, ge_i, mul_i, is_n, nis_n, is_i, nis_i, is_t, nis_t, ix_t, ix_l, ix_s, set0, set1, set2, len_t, len_l, len_s, abs_i, int_i, int_b, sl_l, sl_t, fz_l, fz_t, fz_d, fz_i, seq_t, seq_l, zip_l, zip_t, enum_l, tuple_l, tuple_t, list_l, list_t, neg_i, isa_isInt_non, isa_isInt_bl, isa_isInt_int, isa_isInt_str, isa_isInt_tup, isa_isInt_lst, isa_isInt_scr, isa_isInt_dct, isa_isBool_non, isa_isBool_bl, isa_isBool_int, isa_isBool_str, isa_isBool_tup, isa_isBool_lst, isa_isBool_scr, isa_isBool_dct, isa_isStr_non, isa_isStr_bl, isa_isStr_int, isa_isStr_str, isa_isStr_tup, isa_isStr_lst, isa_isStr_scr, isa_isStr_dct, isa_isTuple_non, isa_isTuple_bl, isa_isTuple_int, isa_isTuple_str, isa_isTuple_tup, isa_isTuple_lst, isa_isTuple_scr, isa_isTuple_dct, isa_isList_non, isa_isList_bl, isa_isList_int, isa_isList_str, isa_isList_tup, isa_isList_lst, isa_isList_scr, isa_isList_dct, isa_isDict_non, isa_isDict_bl, isa_isDict_int, isa_isDict_str, isa_isDict_tup, isa_isDict_lst, isa_isDict_scr, isa_isDict_dct, eq_i, ne_i, eq_s, ne_s, fzn_1, fzn_2, fzn_3, fzn_4, fzn_5, fzn_6, fzn_7, fzn_8, fzn_9, fzn_s, fznL_n, fznL_c, fznK_n, fznK_c, fznF_n, fznF_c, sz0, sz1, sz2, sz3, sz4, sz5, sz6, sz7, sz8, pk1, pk2, pk3, pk4, fzL_n, fzL_c, fz_int, fz_bl, fz_str, fz_non, putD_n, putD_c, at0, at1, at2, at3, ix0, ix1, ix2, Bool.not_true, Bool.not_false, Bool.true_and, Bool.and_true, Bool.false_and, Bool.and_false, Bool.or_true, Bool.true_or, Bool.false_or, Bool.or_false, if_true, if_false, Bool.false_eq_true, decide_true, decide_false, and_self, and_true, true_and, not_true_eq_false, not_false_eq_true, ne_eq, false_and, and_false, eq_self])
local macro_rules | `(tactic| walk_at "env") => `(tactic| simp only [List.map_cons, List.map_nil, List.cons_append, List.nil_append, List.replicate_succ, List.replicate_zero])
local macro_rules | `(tactic| walk_at "ew") => `(tactic| simp -dsimp only [*, b_bo, b_b0, v_bo, v_b0, v_c, v_v, v_mv, v_vk, v_k, v_fk, v_nil, v_cons, v_1, v_2, v_L, v_bB, asB_b, v_bAnd, v_bOr, v_bNot, v_bYes, v_if, v_and, v_or, v_not, v_tup, v_lst, v_fld, asI_i, v_oN, v_oS, optI_i, v_sl, v_rg1, v_rg2, v_lrg, v_trg, chainK_b, v_chain,
  Fl.k_nx, Fl.k_rt, Fl.k_bk, Fl.k_ct, v_seq, v_pass, v_bk, v_ct, v_ret, v_retN, v_expr, v_sif, v_asg, optE_s, v_gN, v_gT, v_gsN, v_gsC, Option.bind_some, v_par, v_par3, v_aug, v_put, v_sfld, v_for, optL_s, v_iSeq, v_iOf, v_iStr, v_lc, v_mList, Rf.back_ok, optP_s, v_callF, v_call, v_aN, v_aE, v_aI, v_fN, v_fE, v_fI, optD_s, Option.map_some,
  v_kN, v_kE, v_kI, v_methE, v_methI, Rf.newB_ok, v_new, fin_rt, fin_nx, getR_s, liftK_s, R.ite_t, R.ite_f, List.getElem?_cons_zero, List.getElem?_cons_succ, List.set_cons_zero, List.set_cons_succ, List.map_cons, List.map_nil, List.cons_append, List.nil_append, List.replicate_succ, List.replicate_zero, k2_s, k3_s, insK_s, strK_s, mlK_s, optF_s, joinO_s, v_gp, v_gq, fldO_s, v_gf, setO_s, v_gs, optR_s, al_n, al_c, pi_t, pi_f, pi_n, wi_n, wi_c,
  add_i, sub_i, mod_i, div_i, pow_60, pow_18, lt_i, le_i, gt_i, ge_i, mul_i, is_n, nis_n, is_i, nis_i, is_t, nis_t, ix_t, ix_l, ix_s, set0, set1, set2, len_t, len_l, len_s, abs_i, int_i, int_b, sl_l, sl_t, fz_l, fz_t, fz_d, fz_i, seq_t, seq_l, zip_l, zip_t, enum_l, tuple_l, tuple_t, list_l, list_t, neg_i, isa_isInt_non, isa_isInt_bl, isa_isInt_int, isa_isInt_str, isa_isInt_tup, isa_isInt_lst, isa_isInt_scr, isa_isInt_dct, isa_isBool_non, isa_isBool_bl, isa_isBool_int, isa_isBool_str, isa_isBool_tup, isa_isBool_lst, isa_isBool_scr, isa_isBool_dct, isa_isStr_non, isa_isStr_bl, isa_isStr_int, isa_isStr_str, isa_isStr_tup, isa_isStr_lst, isa_isStr_scr, isa_isStr_dct, isa_isTuple_non, isa_isTuple_bl, isa_isTuple_int, isa_isTuple_str, isa_isTuple_tup, isa_isTuple_lst, isa_isTuple_scr, isa_isTuple_dct, isa_isList_non, isa_isList_bl, isa_isList_int, isa_isList_str, isa_isList_tup, isa_isList_lst, isa_isList_scr, isa_isList_dct, isa_isDict_non, isa_isDict_bl, isa_isDict_int, isa_isDict_str, isa_isDict_tup, isa_isDict_lst, isa_isDict_scr, isa_isDict_dct, eq_i, ne_i, eq_s, ne_s, fzn_1, fzn_2, fzn_3, fzn_4, fzn_5, fzn_6, fzn_7, fzn_8, fzn_9, fzn_s, fznL_n, fznL_c, fznK_n, fznK_c, fznF_n, fznF_c, sz0, sz1, sz2, sz3, sz4, sz5, sz6, sz7, sz8, pk1, pk2, pk3, pk4, fzL_n, fzL_c, fz_int, fz_bl, fz_str, fz_non, putD_n, putD_c, at0, at1, at2, at3, ix0, ix1, ix2, Bool.not_true, Bool.not_false, Bool.true_and, Bool.and_true, Bool.false_and, Bool.and_false, Bool.or_true, Bool.true_or, Bool.false_or, Bool.or_false, if_true, if_false, Bool.false_eq_true, decide_true, decide_false, and_self, and_true, true_and, not_true_eq_false, not_false_eq_true, ne_eq, false_and, and_false, eq_self, v_parN, po2, po3, po4, se_n, se_c, v_gUL, v_dnew, fi2_i, gdiv_i, gadd_i])
theorem dat_int {c : Nat} : isDat (.int c) = true := rfl
theorem ints_dat {code : List Nat} : ∀ d ∈ code.map (fun x : Nat => D.int x), isDat d = true := fun d hd => by
  obtain ⟨b, _, rfl⟩ := List.mem_map.mp hd
  rfl
/-- an odd value, frozen -/
structure Odd (d : D) : Prop where
  dat : isDat d = true
  z : fzn d = true
  rep : Rp 1 3 d ∨ Rq 1 1 d
theorem odd_step {N c L : Nat} {rs : List Row} {code : List Nat} {S K b M d : D} {X : List D} {x8 x9 x10 : Option D} (h : TabOk c L rs) (hb : Bx N b) (hN : N ≤ 2 ^ 50) (hc : code.length ≤ 40) (hcm : ∀ x ∈ code, x < 2 ^ 100) (hd : Odd d) (hX : X.length ≤ 100) :
    ∃ (b' t : D) (y8 : Option D), lb_law_k04_2 [some S, some K, some b, some (tabD c rs), some M, some (cd code), some (.lst true X), some d, x8, x9, x10] = .ok .nx [some S, some K, some b', some (tabD c rs), some M, some (cd code), some (.lst true (X ++ [t])), some d, y8, x9, x10] ∧ Bx (N + 1) b' ∧ Thing c rs t ∧ fz t = t := by
  obtain ⟨a, b', t1, p1, p2, hb'⟩ := take_spec (m := (code.length : Int) + 1) hb (by omega) (by omega) (by omega)
  obtain ⟨a, rfl⟩ := Int.eq_ofNat_of_zero_le p1
  have ha : a ≤ code.length := by omega
  have lc := len_cd (code := code)
  have s1 : fSl (cd code) none (some (a : Int)) = some (.tup ((code.map fun x : Nat => D.int x).take a)) := by unfold cd; rw [sl_t, cut_take (by simpa using ha)]
  have s2 : fSl (cd code) (some (a : Int)) none = some (.tup ((code.map fun x : Nat => D.int x).drop a)) := by unfold cd; rw [sl_t, cut_from]
  have hI : (code.map fun x : Nat => D.int x).length = code.length := List.length_map _
  have hId := ints_dat (code := code)
  have hIz : fznL (code.map fun x : Nat => D.int x) = true := fznL_code
  have hIr : ∀ q ∈ code.map (fun x : Nat => D.int x), Rp 1 3 q := fun q hq => by
    obtain ⟨k, hk, rfl⟩ := List.mem_map.mp hq
    exact (rp_nat (hcm k hk)).le (by decide)
  have hIq : ∀ q ∈ code.map (fun x : Nat => D.int x), Rq 1 1 q := fun q hq => by
    obtain ⟨k, hk, rfl⟩ := List.mem_map.mp hq
    exact rq_nat (hcm k hk)
  generalize (code.map fun x : Nat => D.int x) = I at *
  have a1 := add_tt (a := I.take a) (b := [d]) (by rw [List.length_take]; simp; omega)
  have a2 := add_tt (a := I.take a ++ [d]) (b := I.drop a) (by rw [List.length_append, List.length_take, List.length_drop]; simp; omega)
  have hm : ∀ q ∈ I.take a ++ [d] ++ I.drop a, q ∈ I ∨ q = d := fun q hq => by
    rcases List.mem_append.mp hq with hq | hq
    · rcases List.mem_append.mp hq with hq | hq
      · exact .inl (List.mem_of_mem_take hq)
      · exact .inr (List.mem_singleton.mp hq)
    · exact .inl (List.mem_of_mem_drop hq)
  have hl : (I.take a ++ [d] ++ I.drop a).length ≤ 41 := by
    rw [List.length_append, List.length_append, List.length_take, List.length_drop]
    simp
    omega
  have hz : fznL (I.take a ++ [d] ++ I.drop a) = true := fznL_of fun q hq => by
    rcases hm q hq with hq | rfl
    · exact fznL_mem hIz q hq
    · exact hd.z
  have hr : ∃ x, fReprU [.tup (I.take a ++ [d] ++ I.drop a)] = some (.str x) := by
    rcases hd.rep with h1 | h1
    · have := rp_tup (rpl_all (n := 1) (k := 3) (ds := I.take a ++ [d] ++ I.drop a) fun q hq => by
        rcases hm q hq with hq | rfl
        · exact hIr q hq
        · exact h1)
      exact reprU_p this (by decide) (by omega)
    · have := rq_tup (rql_all (n := 1) (k := 1) (ds := I.take a ++ [d] ++ I.drop a) fun q hq => by
        rcases hm q hq with hq | rfl
        · exact hIq q hq
        · exact h1)
      exact reprU_q this rfl (by decide) (by omega)
  have hdat : ∀ q ∈ I.take a ++ [d] ++ I.drop a, isDat q = true := fun q hq => by
    rcases hm q hq with hq | rfl
    · exact hId q hq
    · exact hd.dat
  refine ⟨b', .tup (I.take a ++ [d] ++ I.drop a), some (.int a), ?_, hb', thing_tup hdat hz (by omega) hr, ?_⟩
  · have ap := app_one (ds := X) (d := .tup (I.take a ++ [d] ++ I.drop a)) (by omega)
    have zd := hd.z
    generalize I.take a ++ [d] ++ I.drop a = R3 at *
    generalize I.take a ++ [d] = R2 at *
    generalize I.take a = R1 at *
    generalize I.drop a = R4 at *
    clear h hb hN hc hcm hd hX p1 p2 hb' ha hI hId hIz hIr hIq hm hl hz hr hdat
    unfold lb_law_k04_2
    walk_at "ew"
  · rw [fz_t, fz_sameL _ hz]
theorem k04_step {ns : List Int} {k : Nat} (hk : k < 4) {x2 x3 x4 x5 x6 x7 x8 x9 x10 : Option D} :
    ∃ (y2 y3 y4 y5 y6 y7 y8 y9 y10 : Option D), lb_law_k04_3 [some (.scr (ns.map .int)), some (.int k), x2, x3, x4, x5, x6, x7, x8, x9, x10] = .ok .nx [some (.scr (ns.map .int)), some (.int k), y2, y3, y4, y5, y6, y7, y8, y9, y10] := by
  obtain ⟨b, h1, hb⟩ := box_spec (ns := ns) (k := k) (by omega)
  have zs : fznL (ns.map D.int) = true := fznL_map fun _ _ => rfl
  obtain ⟨c, rs, b1, t1, ht, hcc, hb1, _⟩ := table_spec (mo := 256) (L := 12) hb (by decide) (by decide) (by decide) (by decide) (by decide)
  have t1 : m_l_table [b, .int 256, .int 12] = .ok (tabD c rs) [b1] := t1
  have hi := init_spec ht (by decide)
  have hlo := ht.lo
  have hhi := ht.hi
  obtain ⟨n, b2, t2, p1, p2, hb2⟩ := take_spec (m := 31) hb1 (by omega) (by omega) (by omega)
  obtain ⟨n, rfl⟩ := Int.eq_ofNat_of_zero_le p1
  obtain ⟨code, b3, w0, w2, w3, w4⟩ := bytes_spec (n := n) ht hb2 (by omega) (by omega)
  have w1 : m_l_bytes [b2, tabD c rs, .int n] = .ok (cd code) [b3] := w0
  clear w0
  have hcl : code.length ≤ 30 := by omega
  have hcm : ∀ x ∈ code, x < 2 ^ 100 := fun x hx => Nat.lt_of_lt_of_le (w3 x hx) (Nat.le_trans hhi (by decide))
  have ft := fzn_tab (c := c) (rs := rs)
  have zc := @fzn_cd
  obtain ⟨dp, t3, hdp⟩ := deep_spec (d := cd code) fzn_cd
  have hls : fList [cd code] = some (.lst true (code.map fun x : Nat => D.int x)) := by
    unfold cd
    rw [list_t, if_pos fznL_code]
  have had := add_cd (a := code) (b := code) (by omega)
  have s12 : ∀ {a1 a2 a3 a4 a5 a6 a7 a8 a9 a10 a11 a12 : D}, ([a1, a2, a3, a4, a5, a6, a7, a8, a9, a10, a11, a12] : List D).length ≤ sizeLine := by
    intros
    show 12 ≤ sizeLine
    decide
  let X0 : List D := [cd code, .lst true (code.map fun x : Nat => D.int x), .tup [], .lst true [], .non, .bl true, .int 0, .str (PySem.Str.ofString ""), .dct true [], .tup [cd code], dp, cd (code ++ code), .tup [.int ((c : Int) - 1)]]
  have e0 : ∃ x, fReprU [.str (PySem.Str.ofString "")] = some (.str x) := reprU_p (rp_str (n := 0) (by decide +kernel)) (by decide) (by decide)
  have good0 : ∀ t ∈ X0, Thing c rs (fz t) := by
    intro t htm
    simp only [X0, List.mem_cons, List.not_mem_nil, or_false] at htm
    rcases htm with rfl | rfl | rfl | rfl | rfl | rfl | rfl | rfl | rfl | rfl | rfl | rfl | rfl
    · rw [fz_same _ fzn_cd]
      exact thing_tup ints_dat fznL_code (by rw [List.length_map]; omega) (reprU_p (rp_cd (n := 0) hcm) (by decide) (by omega))
    · rw [fz_l, fzL_code]
      refine thing_no (by simp [fzn, fznL_code]) rfl rfl ?_
      have := rpl_all (n := 0) (k := 1) (ds := code.map fun x : Nat => D.int x) fun d hd => by
        obtain ⟨b, hb, rfl⟩ := List.mem_map.mp hd
        exact rp_nat (hcm b hb)
      exact reprU_p (rp_lst this) (by decide) (by rw [List.length_map]; omega)
    · exact thing_tup (fun d hd => by cases hd) rfl (by decide) (reprU_p (rp_tup (n := 0) rpl_nil) (by decide) (by decide))
    · exact thing_no rfl rfl rfl (reprU_p (rp_lst (n := 0) rpl_nil) (by decide) (by decide))
    · exact thing_no rfl rfl rfl (reprU_p (rp_non (n := 0)) (by decide) (by decide))
    · exact thing_no rfl rfl rfl (reprU_p (rp_bl (n := 0)) (by decide) (by decide))
    · exact thing_no rfl rfl rfl (reprU_p (rp_int (n := 0) (by decide)) (by decide) (by decide))
    · exact thing_no rfl rfl rfl e0
    · exact thing_no rfl rfl rfl (reprU_q (rq_dct0 (n := 0)) rfl (by decide) (by decide))
    · rw [fz_same _ (by simp [fzn, fznL, fzn_cd])]
      exact thing_tup (fun d hd => by rw [List.mem_singleton.mp hd]; rfl) (by simp [fznL, fzn_cd]) (by simp) (reprU_p (rp_tup (rpl_cons (rp_cd (n := 0) hcm) rpl_nil)) (by decide) (by omega))
    · rw [hdp]
      have hr := rp_deep (rp_cd (n := 0) hcm) 28
      refine thing_no (fzn_deep fzn_cd 28) rfl rfl (reprU_p hr (by decide) (by omega))
    · rw [fz_same _ fzn_cd]
      refine thing_tup ints_dat fznL_code (by rw [List.length_map, List.length_append]; omega) (reprU_p (rp_cd (n := 0) fun b hb => ?_) (by decide) (by rw [List.length_append]; omega))
      rcases List.mem_append.mp hb with hb | hb
      · exact hcm b hb
      · exact hcm b hb
    · rw [fz_same _ rfl]
      refine thing_tup (fun d hd => by rw [List.mem_singleton.mp hd]; rfl) rfl (by simp) (reprU_p (rp_tup (rpl_cons (rp_int (n := 0) ?_) rpl_nil)) (by decide) (by decide))
      exact Nat.lt_of_le_of_lt (by omega : ((c : Int) - 1).natAbs ≤ 2 ^ 9) (by decide)
  -- the odd ones
  let Od : List D := [.int c, .int (-1), .bl true, .bl false, .str (PySem.Str.ofString "0"), .non, .tup [.int 0], .lst false [], .int (10 ^ 30), .dct false [], .int ((c : Int) - 1), .int 0]
  have hOd : ∀ d ∈ Od, Odd d := by
    intro d hd
    simp only [Od, List.mem_cons, List.not_mem_nil, or_false] at hd
    have sm : ∀ i : Int, i.natAbs ≤ 10 ^ 30 → Rp 1 3 (.int i) := fun i hi => (rp_int (Nat.lt_of_le_of_lt hi (by decide +kernel))).le (by decide)
    rcases hd with rfl | rfl | rfl | rfl | rfl | rfl | rfl | rfl | rfl | rfl | rfl | rfl
    · exact ⟨rfl, rfl, .inl (sm _ (by omega))⟩
    · exact ⟨rfl, rfl, .inl (sm _ (by decide))⟩
    · exact ⟨rfl, rfl, .inl (rp_bl.le (by decide))⟩
    · exact ⟨rfl, rfl, .inl (rp_bl.le (by decide))⟩
    · exact ⟨rfl, rfl, .inl ((rp_str (by decide +kernel)).le (by decide +kernel))⟩
    · exact ⟨rfl, rfl, .inl (rp_non.le (by decide))⟩
    · exact ⟨rfl, rfl, .inl ((rp_tup (rpl_cons (rp_int (n := 0) (by decide)) rpl_nil)).le (by decide))⟩
    · exact ⟨rfl, rfl, .inl ((rp_lst (n := 0) rpl_nil).le (by decide))⟩
    · exact ⟨rfl, rfl, .inl (sm _ (by decide +kernel))⟩
    · exact ⟨rfl, rfl, .inr rq_dct0⟩
    · exact ⟨rfl, rfl, .inl (sm _ (by omega))⟩
    · exact ⟨rfl, rfl, .inl (sm _ (by decide))⟩
  obtain ⟨e2, k1, b4, X, x7', x8', rfl, k2, k3, k4⟩ := for_inv (g := gN 7) (m := lb_law_k04_2) Od (fun i env => ∃ (b4 : D) (X : List D) (x7 x8 : Option D), env = [some (.scr (ns.map .int)), some (.int k), some b4, some (tabD c rs), some (machD true c rs), some (cd code), some (.lst true X), x7, x8, x9, x10] ∧ Bx (3100 + i) b4 ∧ X.length = 13 + i ∧ ∀ t ∈ X, Thing c rs (fz t)) (by
    rintro i d _ hd ⟨b4, X, x7, x8, rfl, k2, k3, k4⟩
    have hdm := hOd d (List.mem_of_getElem? hd)
    have hi12 : i < 12 := by
      rcases Nat.lt_or_ge i 12 with g | g
      · exact g
      · rw [List.getElem?_eq_none (show Od.length ≤ i from g)] at hd; cases hd
    obtain ⟨b5, t, y8, q1, q2, q3, q4⟩ := odd_step (S := .scr (ns.map .int)) (K := .int k) (M := machD true c rs) (x8 := x8) (x9 := x9) (x10 := x10) (X := X) ht k2 (by omega) (by omega) hcm hdm (by omega)
    refine ⟨_, _, rfl, .inl q1, b5, X ++ [t], _, _, rfl, q2.mono (by omega), by simp [k3]; omega, fun q hq => ?_⟩
    rcases List.mem_append.mp hq with hq | hq
    · exact k4 q hq
    · rw [List.mem_singleton.mp hq, q4]; exact q3) (env := [some (.scr (ns.map .int)), some (.int k), some b3, some (tabD c rs), some (machD true c rs), some (cd code), some (.lst true X0), x7, x8, x9, x10]) ⟨b3, X0, x7, x8, rfl, w4.mono (by omega), rfl, good0⟩
  have k3 : X.length = 13 + 12 := k3
  have hlp2 : lp_law_k04_2 [some (.scr (ns.map .int)), some (.int k), some b3, some (tabD c rs), some (machD true c rs), some (cd code), some (.lst true X0), x7, x8, x9, x10] = .ok .nx [some (.scr (ns.map .int)), some (.int k), some b4, some (tabD c rs), some (machD true c rs), some (cd code), some (.lst true X), x7', x8', x9, x10] := by
    rw [← k1]
    unfold lp_law_k04_2
    have hpw : fPow (.int 10) (.int 30) = some (.int (10 ^ 30)) := by
      unfold fPow fI2
      simp only
      rw [if_pos (by decide)]
      rfl
    generalize X0 = XX at *
    clear good0 hOd k1 k2 k3 k4 h1 hb zs t1 ht hcc hb1 hi hlo hhi t2 p1 p2 hb2 w1 w2 w3 w4 hcl hcm t3 hdp hls had e0 hk zc
    unfold tabD
    walk_at "ew"
    rfl
  -- the questions
  have hX2 : fzL X = X.map fz := fzL_map X
  obtain ⟨e3, q1, mo, x9', x10', q2⟩ := for_inv (g := gN 9) (m := lb_law_k04_1) (X.map fz) (fun i env => ∃ (mo : Bool) (x9 x10 : Option D), env = [some (.scr (ns.map .int)), some (.int k), some b4, some (tabD c rs), some (machD mo c rs), some (cd code), some (.lst false (X.map fz)), x7', x8', x9, x10]) (by
    rintro i d _ hd ⟨mo, x9, x10, rfl⟩
    rw [List.getElem?_map, Option.map_eq_some_iff] at hd
    obtain ⟨t, htm, rfl⟩ := hd
    obtain ⟨hz, ⟨x, hx⟩, v, hv1, hv2⟩ := k4 t (List.mem_of_getElem? htm)
    obtain ⟨y, hy⟩ := reprU_p (rp_bl (n := 0) (b := v)) (by decide) (by decide)
    refine ⟨_, [some (.scr (ns.map .int)), some (.int k), some b4, some (tabD c rs), some (machD false c rs), some (cd code), some (.lst false (X.map fz)), x7', x8', some (fz t), some (.str x)], rfl, .inl ?_, false, _, _, rfl⟩
    have z1 := fzn_mach (c := c) (rs := rs)
    have z2 := fzn_mach' (c := c) (rs := rs)
    have z3 := fz_mach (c := c) (rs := rs)
    generalize fz t = T at *
    generalize X.map fz = XF at *
    clear good0 hOd k1 k2 k3 k4 h1 hb zs t1 ht hcc hb1 hi hlo hhi t2 p1 p2 hb2 w1 w2 w3 w4 hcl hcm t3 hdp hls had e0 hk hlp2 hX2 s12
    unfold lb_law_k04_1 tabD
    cases mo with
    | true => walk_at "ew"
    | false => walk_at "ew") (env := [some (.scr (ns.map .int)), some (.int k), some b4, some (tabD c rs), some (machD true c rs), some (cd code), some (.lst false (X.map fz)), x7', x8', x9, x10]) ⟨true, x9, x10, rfl⟩
  subst q2
  have hfx : fznL X = false ∨ fznL X = true := by cases fznL X <;> simp
  have hlp1 : lp_law_k04_1 [some (.scr (ns.map .int)), some (.int k), some b4, some (tabD c rs), some (machD true c rs), some (cd code), some (.lst true X), x7', x8', x9, x10] = .ok .nx [some (.scr (ns.map .int)), some (.int k), some b4, some (tabD c rs), some (machD mo c rs), some (cd code), some (.lst false (X.map fz)), x7', x8', x9', x10'] := by
    rw [← q1]
    unfold lp_law_k04_1
    have hXX : fzL (X.map fz) = X.map fz := by
      rw [fzL_map, List.map_map]
      refine List.map_congr_left fun t htm => ?_
      exact fz_same _ (k4 t htm).z
    clear good0 hOd k1 k2 k3 k4 h1 hb zs t1 ht hcc hb1 hi hlo hhi t2 p1 p2 hb2 w1 w2 w3 w4 hcl hcm t3 hdp hls had e0 hk hlp2 s12 q1
    generalize X.map fz = XF at *
    walk_at "ew"
  -- the last one
  have hlast : m_is_code [machD false c rs, cd code] = .ok (.bl true) [] := by
    have := is_code_tup (c := c) (rs := rs) (ds := code.map fun x : Nat => D.int x) ints_dat fznL_code (by rw [List.length_map]; omega)
    rw [show ((code.map fun x : Nat => D.int x).all (okI ((c : Int) - 1))) = true from ?_] at this
    · exact this
    · rw [List.all_eq_true]
      intro d hd
      obtain ⟨b, hb, rfl⟩ := List.mem_map.mp hd
      have := w3 b hb
      simp only [okI, Bool.and_eq_true, decide_eq_true_eq]
      omega
  have hkw : fKw [1, 0] 2 m_is_code [cd code, machD false c rs] = .ok (.bl true) [] := by
    rw [← hlast]
    have : (fznL [cd code, machD false c rs] && decide (([cd code, machD false c rs] : List D).length = 2)) = true := by simp [fznL, fzn_cd, fzn_mach]
    unfold fKw
    rw [if_pos this]
    rfl
  have z1 := fzn_mach (c := c) (rs := rs)
  have z2 := fzn_mach' (c := c) (rs := rs)
  have z3 := fz_mach (c := c) (rs := rs)
  have zr := fznL_rows rs
  have nb : fNis (.bl true) (.bl true) = some (.bl false) := rfl
  have ap0 := app_one (ds := [cd code, .lst true (code.map fun x : Nat => D.int x), .tup [], .lst true [], .non, .bl true, .int 0, .str (PySem.Str.ofString ""), .dct true [], .tup [cd code], dp, cd (code ++ code)]) (d := .tup [.int ((c : Int) - 1)]) (by simp)
  clear good0 hOd k1 k2 k3 k4 hb ht hcc hb1 hlo hhi p1 p2 hb2 w2 w3 w4 hcl hcm hdp e0 hk q1 hX2 hfx hlast
  refine ⟨some b4, some (tabD c rs), some (machD false c rs), some (cd code), some (.lst false (X.map fz)), x7', x8', x9', x10', ?_⟩
  unfold lb_law_k04_3
  refine seq_nx (e := [some (.scr (ns.map .int)), some (.int k), some b, x3, x4, x5, x6, x7, x8, x9, x10]) (by clear hlp1 hlp2 hkw t1 t2 t3 w1 hi hls had ap0; walk_at "ew") ?_
  refine seq_nx (e := [some (.scr (ns.map .int)), some (.int k), some b1, some (tabD c rs), x4, x5, x6, x7, x8, x9, x10]) (by clear hlp1 hlp2 hkw t2 t3 w1 hi hls had ap0 h1; walk_at "ew") ?_
  refine seq_nx (e := [some (.scr (ns.map .int)), some (.int k), some b3, some (tabD c rs), some (machD true c rs), some (cd code), x6, x7, x8, x9, x10]) (by
    clear hlp1 hlp2 hkw t3 hls had ap0 h1 t1 zc
    unfold tabD at *
    walk_at "ew") ?_
  refine seq_nx (e := [some (.scr (ns.map .int)), some (.int k), some b3, some (tabD c rs), some (machD true c rs), some (cd code), some (.lst true [cd code, .lst true (code.map fun x : Nat => D.int x), .tup [], .lst true [], .non, .bl true, .int 0, .str (PySem.Str.ofString ""), .dct true [], .tup [cd code], dp, cd (code ++ code)]), x7, x8, x9, x10]) (by
    clear hlp1 hlp2 hkw ap0 h1 t1 t2 w1 hi
    generalize (code.map fun x : Nat => D.int x) = II at *
    walk_at "ew") ?_
  refine seq_nx (e := [some (.scr (ns.map .int)), some (.int k), some b3, some (tabD c rs), some (machD true c rs), some (cd code), some (.lst true X0), x7, x8, x9, x10]) (by
    clear hlp1 hlp2 hkw h1 t1 t2 w1 hi hls had t3 s12
    unfold tabD
    walk_at "ew"
    rfl) ?_
  refine seq_nx hlp2 ?_
  refine seq_nx hlp1 ?_
  clear hlp1 hlp2 h1 t1 t2 w1 hi hls had t3 s12 ap0
  cases mo with
  | true => walk_at "ew"
  | false => walk_at "ew"
theorem law_k04 (ns : List Int) (hn : ns.length ≤ 63) : m_law_k04 [.scr (ns.map .int)] = .ok (.bl true) [] := by
  obtain ⟨v, hv, v1⟩ := fin_min (ns := ns)
  obtain ⟨e', k1, x1, x2, x3, x4, x5, x6, x7, x8, x9, x10, k2⟩ := for_inv (g := gN 1) (m := lb_law_k04_3) ((List.range (1 + v)).map fun k : Nat => .int (k : Int)) (fun i env => ∃ x1 x2 x3 x4 x5 x6 x7 x8 x9 x10, env = [some (.scr (ns.map .int)), x1, x2, x3, x4, x5, x6, x7, x8, x9, x10]) (by
    rintro i d _ hd ⟨x1, x2, x3, x4, x5, x6, x7, x8, x9, x10, rfl⟩
    have hi : i < 1 + v := by
      rcases Nat.lt_or_ge i (1 + v) with g | g
      · exact g
      · rw [List.getElem?_eq_none (by simpa using g)] at hd; cases hd
    rw [List.getElem?_map, List.getElem?_range hi] at hd
    cases hd
    obtain ⟨y2, y3, y4, y5, y6, y7, y8, y9, y10, h⟩ := k04_step (ns := ns) (k := i) (by omega) (x2 := x2) (x3 := x3) (x4 := x4) (x5 := x5) (x6 := x6) (x7 := x7) (x8 := x8) (x9 := x9) (x10 := x10)
    exact ⟨_, _, rfl, .inl h, _, _, _, _, _, _, _, _, _, _, rfl⟩) (env := [some (.scr (ns.map .int)), none, none, none, none, none, none, none, none, none, none]) ⟨_, _, _, _, _, _, _, _, _, _, rfl⟩
  subst k2
  have hlp : lp_law_k04_3 [some (.scr (ns.map .int)), none, none, none, none, none, none, none, none, none, none] = .ok .nx [some (.scr (ns.map .int)), x1, x2, x3, x4, x5, x6, x7, x8, x9, x10] := by
    rw [← k1]
    unfold lp_law_k04_3
    have := rng1_n (j := 1 + v) (by omega)
    have e : ((1 + v : Nat) : Int) = 1 + (v : Int) := by omega
    rw [e] at this
    have zs : fznL (ns.map D.int) = true := fznL_map fun _ _ => rfl
    clear k1 v1 hn e
    walk_at "ew"
  clear k1 v1 hn hv
  unfold m_law_k04 b_law_k04
  rw [v_fn]
  walk_at "ew"
end Mi

set_option maxHeartbeats 4000000
namespace Mi
open PySem PySem.Spec PyProof.Rows L2 RZ Ov PpSet
theorem all_mk {l : PySem.W.OpenLaw} {w : World} {K : PySem.W.Frag} {h : Heap} {mg : Str → Option Value} {fa : Addr} (X : K.In h) (G : h.Ns mainGlobals mg) (hfa : mg "law" = some (.ref fa))
    {f0 : Addr} {od0 an0 : Option Addr} {sl0 : Array (Option Value)} {oc0 kV0 dc0 pm0 cd0 ct0 : Value}
    {f1 : Addr} {od1 an1 : Option Addr} {sl1 : Array (Option Value)} {oc1 kV1 dc1 pm1 cd1 ct1 : Value}
    {f2 : Addr} {od2 an2 : Option Addr} {sl2 : Array (Option Value)} {oc2 kV2 dc2 pm2 cd2 ct2 : Value}
    {f3 : Addr} {od3 an3 : Option Addr} {sl3 : Array (Option Value)} {oc3 kV3 dc3 pm3 cd3 ct3 : Value}
    {f4 : Addr} {od4 an4 : Option Addr} {sl4 : Array (Option Value)} {oc4 kV4 dc4 pm4 cd4 ct4 : Value}
    {f5 : Addr} {od5 an5 : Option Addr} {sl5 : Array (Option Value)} {oc5 kV5 dc5 pm5 cd5 ct5 : Value}
    {f6 : Addr} {od6 an6 : Option Addr} {sl6 : Array (Option Value)} {oc6 kV6 dc6 pm6 cd6 ct6 : Value}
    {f7 : Addr} {od7 an7 : Option Addr} {sl7 : Array (Option Value)} {oc7 kV7 dc7 pm7 cd7 ct7 : Value}
    {f8 : Addr} {od8 an8 : Option Addr} {sl8 : Array (Option Value)} {oc8 kV8 dc8 pm8 cd8 ct8 : Value}
    {f9 : Addr} {od9 an9 : Option Addr} {sl9 : Array (Option Value)} {oc9 kV9 dc9 pm9 cd9 ct9 : Value}
    {f10 : Addr} {od10 an10 : Option Addr} {sl10 : Array (Option Value)} {oc10 kV10 dc10 pm10 cd10 ct10 : Value}
    {f11 : Addr} {od11 an11 : Option Addr} {sl11 : Array (Option Value)} {oc11 kV11 dc11 pm11 cd11 ct11 : Value}
    {f12 : Addr} {od12 an12 : Option Addr} {sl12 : Array (Option Value)} {oc12 kV12 dc12 pm12 cd12 ct12 : Value}
    {f13 : Addr} {od13 an13 : Option Addr} {sl13 : Array (Option Value)} {oc13 kV13 dc13 pm13 cd13 ct13 : Value}
    {CInstructionSet : Addr}
    {fCInstructionSetm0 : Addr} {odCInstructionSetm0 anCInstructionSetm0 : Option Addr} {slCInstructionSetm0 : Array (Option Value)} {ocCInstructionSetm0 kVCInstructionSetm0 dcCInstructionSetm0 pmCInstructionSetm0 cdCInstructionSetm0 ctCInstructionSetm0 : Value}
    {v_LONGEST_NAME : Value}
    {v_LETTERS : Value}
    {v_LONGEST_INSTRUCTION : Value}
    {v_LEAST_BYTE_COUNT : Value}
    {v_GREATEST_BYTE_COUNT : Value}
    (a0 : PySem.W.nsIn K mainGlobals "_law_box" = some (some (.ref f0)))
    (l0 : K.lookup f0 = some ⟨oc0, od0, .func (PySem.W.fnOf "_law_box" "_law_box" (defArgs s_l_box) (defBody s_l_box) (defScope s_l_box) .none kV0 dc0 pm0 an0 cd0 ct0), sl0⟩)
    (c0 : PySem.W.codeIn K cd0 "_law_box" = true)
    (k0 : PySem.W.keepIn K (.ref f0) = true)
    (a1 : PySem.W.nsIn K mainGlobals "_law_take" = some (some (.ref f1)))
    (l1 : K.lookup f1 = some ⟨oc1, od1, .func (PySem.W.fnOf "_law_take" "_law_take" (defArgs s_l_take) (defBody s_l_take) (defScope s_l_take) .none kV1 dc1 pm1 an1 cd1 ct1), sl1⟩)
    (c1 : PySem.W.codeIn K cd1 "_law_take" = true)
    (k1 : PySem.W.keepIn K (.ref f1) = true)
    (a2 : PySem.W.nsIn K mainGlobals "is_integer" = some (some (.ref f2)))
    (l2 : K.lookup f2 = some ⟨oc2, od2, .func (PySem.W.fnOf "is_integer" "is_integer" (defArgs s_is_integer) (defBody s_is_integer) (defScope s_is_integer) .none kV2 dc2 pm2 an2 cd2 ct2), sl2⟩)
    (c2 : PySem.W.codeIn K cd2 "is_integer" = true)
    (k2 : PySem.W.keepIn K (.ref f2) = true)
    (a3 : PySem.W.nsIn K mainGlobals "is_ascending" = some (some (.ref f3)))
    (l3 : K.lookup f3 = some ⟨oc3, od3, .func (PySem.W.fnOf "is_ascending" "is_ascending" (defArgs s_is_ascending) (defBody s_is_ascending) (defScope s_is_ascending) .none kV3 dc3 pm3 an3 cd3 ct3), sl3⟩)
    (c3 : PySem.W.codeIn K cd3 "is_ascending" = true)
    (k3 : PySem.W.keepIn K (.ref f3) = true)
    (a4 : PySem.W.nsIn K mainGlobals "is_name" = some (some (.ref f4)))
    (l4 : K.lookup f4 = some ⟨oc4, od4, .func (PySem.W.fnOf "is_name" "is_name" (defArgs s_is_name) (defBody s_is_name) (defScope s_is_name) .none kV4 dc4 pm4 an4 cd4 ct4), sl4⟩)
    (c4 : PySem.W.codeIn K cd4 "is_name" = true)
    (k4 : PySem.W.keepIn K (.ref f4) = true)
    (a5 : PySem.W.nsIn K mainGlobals "_law_deep" = some (some (.ref f5)))
    (l5 : K.lookup f5 = some ⟨oc5, od5, .func (PySem.W.fnOf "_law_deep" "_law_deep" (defArgs s_l_deep) (defBody s_l_deep) (defScope s_l_deep) .none kV5 dc5 pm5 an5 cd5 ct5), sl5⟩)
    (c5 : PySem.W.codeIn K cd5 "_law_deep" = true)
    (k5 : PySem.W.keepIn K (.ref f5) = true)
    (a6 : PySem.W.nsIn K mainGlobals "_law_expected" = some (some (.ref f6)))
    (l6 : K.lookup f6 = some ⟨oc6, od6, .func (PySem.W.fnOf "_law_expected" "_law_expected" (defArgs s_l_expected) (defBody s_l_expected) (defScope s_l_expected) .none kV6 dc6 pm6 an6 cd6 ct6), sl6⟩)
    (c6 : PySem.W.codeIn K cd6 "_law_expected" = true)
    (k6 : PySem.W.keepIn K (.ref f6) = true)
    (a7 : PySem.W.nsIn K mainGlobals "_law_of" = some (some (.ref f7)))
    (l7 : K.lookup f7 = some ⟨oc7, od7, .func (PySem.W.fnOf "_law_of" "_law_of" (defArgs s_l_of) (defBody s_l_of) (defScope s_l_of) .none kV7 dc7 pm7 an7 cd7 ct7), sl7⟩)
    (c7 : PySem.W.codeIn K cd7 "_law_of" = true)
    (k7 : PySem.W.keepIn K (.ref f7) = true)
    (a8 : PySem.W.nsIn K mainGlobals "is_instruction" = some (some (.ref f8)))
    (l8 : K.lookup f8 = some ⟨oc8, od8, .func (PySem.W.fnOf "is_instruction" "is_instruction" (defArgs s_is_instruction) (defBody s_is_instruction) (defScope s_is_instruction) .none kV8 dc8 pm8 an8 cd8 ct8), sl8⟩)
    (c8 : PySem.W.codeIn K cd8 "is_instruction" = true)
    (k8 : PySem.W.keepIn K (.ref f8) = true)
    (a9 : PySem.W.nsIn K mainGlobals "is_code" = some (some (.ref f9)))
    (l9 : K.lookup f9 = some ⟨oc9, od9, .func (PySem.W.fnOf "is_code" "is_code" (defArgs s_is_code) (defBody s_is_code) (defScope s_is_code) .none kV9 dc9 pm9 an9 cd9 ct9), sl9⟩)
    (c9 : PySem.W.codeIn K cd9 "is_code" = true)
    (k9 : PySem.W.keepIn K (.ref f9) = true)
    (a10 : PySem.W.nsIn K mainGlobals "_law_table" = some (some (.ref f10)))
    (l10 : K.lookup f10 = some ⟨oc10, od10, .func (PySem.W.fnOf "_law_table" "_law_table" (defArgs s_l_table) (defBody s_l_table) (defScope s_l_table) .none kV10 dc10 pm10 an10 cd10 ct10), sl10⟩)
    (c10 : PySem.W.codeIn K cd10 "_law_table" = true)
    (k10 : PySem.W.keepIn K (.ref f10) = true)
    (a11 : PySem.W.nsIn K mainGlobals "are_instructions" = some (some (.ref f11)))
    (l11 : K.lookup f11 = some ⟨oc11, od11, .func (PySem.W.fnOf "are_instructions" "are_instructions" (defArgs s_are_instructions) (defBody s_are_instructions) (defScope s_are_instructions) .none kV11 dc11 pm11 an11 cd11 ct11), sl11⟩)
    (c11 : PySem.W.codeIn K cd11 "are_instructions" = true)
    (k11 : PySem.W.keepIn K (.ref f11) = true)
    (a12 : PySem.W.nsIn K mainGlobals "_law_bytes" = some (some (.ref f12)))
    (l12 : K.lookup f12 = some ⟨oc12, od12, .func (PySem.W.fnOf "_law_bytes" "_law_bytes" (defArgs s_l_bytes) (defBody s_l_bytes) (defScope s_l_bytes) .none kV12 dc12 pm12 an12 cd12 ct12), sl12⟩)
    (c12 : PySem.W.codeIn K cd12 "_law_bytes" = true)
    (k12 : PySem.W.keepIn K (.ref f12) = true)
    (a13 : PySem.W.nsIn K mainGlobals "law" = some (some (.ref f13)))
    (l13 : K.lookup f13 = some ⟨oc13, od13, .func (PySem.W.fnOf "law" "law" (defArgs s_law) (defBody s_law) (defScope s_law) .none kV13 dc13 pm13 an13 cd13 ct13), sl13⟩)
    (c13 : PySem.W.codeIn K cd13 "law" = true)
    (k13 : PySem.W.keepIn K (.ref f13) = true)
    (gCInstructionSet : PySem.W.nsIn K mainGlobals "InstructionSet" = some (some (.ref CInstructionSet)))
    (pgCInstructionSet : PySem.W.plainGet K CInstructionSet Str.empty = true)
    (hdCInstructionSet : PySem.W.hasDictIn K CInstructionSet = true)
    (poCInstructionSet : PySem.W.plainOver K CInstructionSet = true)
    (saCInstructionSet : PySem.W.findIn K (.ref CInstructionSet) "__setattr__" = some (some (.builtin "object.__setattr__")))
    (mkCInstructionSet : PySem.W.makesIn K CInstructionSet = true)
    (kcCInstructionSet : PySem.W.keepIn K (.ref CInstructionSet) = true)
    (nCInstructionSetbyte_count : PySem.W.findIn K (.ref CInstructionSet) "byte_count" = some none)
    (nCInstructionSetinstructions : PySem.W.findIn K (.ref CInstructionSet) "instructions" = some none)
    (nCInstructionSetby_opcode : PySem.W.findIn K (.ref CInstructionSet) "by_opcode" = some none)
    (aCInstructionSetm0 : PySem.W.findIn K (.ref CInstructionSet) "__init__" = some (some (.ref fCInstructionSetm0)))
    (iCInstructionSetm0 : PySem.W.isFn K (.ref fCInstructionSetm0) = true)
    (lCInstructionSetm0 : K.lookup fCInstructionSetm0 = some ⟨ocCInstructionSetm0, odCInstructionSetm0, .func (PySem.W.fnOf "__init__" "InstructionSet.__init__" (defArgs s_InstructionSet_init) (defBody s_InstructionSet_init) (defScope s_InstructionSet_init) .none kVCInstructionSetm0 dcCInstructionSetm0 pmCInstructionSetm0 anCInstructionSetm0 cdCInstructionSetm0 ctCInstructionSetm0), slCInstructionSetm0⟩)
    (cCInstructionSetm0 : PySem.W.codeIn K cdCInstructionSetm0 "InstructionSet.__init__" = true)
    (kCInstructionSetm0 : PySem.W.keepIn K (.ref fCInstructionSetm0) = true)
    (q_LONGEST_NAME : PySem.W.nsIn K mainGlobals "LONGEST_NAME" = some (some v_LONGEST_NAME))
    (r_LONGEST_NAME : L2.RelV (.int 8) v_LONGEST_NAME)
    (q_LETTERS : PySem.W.nsIn K mainGlobals "LETTERS" = some (some v_LETTERS))
    (r_LETTERS : L2.RelV (.str (PySem.Str.ofString "abcdefghijklmnopqrstuvwxyz")) v_LETTERS)
    (q_LONGEST_INSTRUCTION : PySem.W.nsIn K mainGlobals "LONGEST_INSTRUCTION" = some (some v_LONGEST_INSTRUCTION))
    (r_LONGEST_INSTRUCTION : L2.RelV (.int 12) v_LONGEST_INSTRUCTION)
    (q_LEAST_BYTE_COUNT : PySem.W.nsIn K mainGlobals "LEAST_BYTE_COUNT" = some (some v_LEAST_BYTE_COUNT))
    (r_LEAST_BYTE_COUNT : L2.RelV (.int 2) v_LEAST_BYTE_COUNT)
    (q_GREATEST_BYTE_COUNT : PySem.W.nsIn K mainGlobals "GREATEST_BYTE_COUNT" = some (some v_GREATEST_BYTE_COUNT))
    (r_GREATEST_BYTE_COUNT : L2.RelV (.int 256) v_GREATEST_BYTE_COUNT)
    (b_len : PySem.W.nsIn K mainGlobals "len" = some none)
    (b_abs : PySem.W.nsIn K mainGlobals "abs" = some none)
    (b_int : PySem.W.nsIn K mainGlobals "int" = some none)
    (b_bool : PySem.W.nsIn K mainGlobals "bool" = some none)
    (b_str : PySem.W.nsIn K mainGlobals "str" = some none)
    (b_tuple : PySem.W.nsIn K mainGlobals "tuple" = some none)
    (b_list : PySem.W.nsIn K mainGlobals "list" = some none)
    (b_dict : PySem.W.nsIn K mainGlobals "dict" = some none)
    (b_set : PySem.W.nsIn K mainGlobals "set" = some none)
    (b_range : PySem.W.nsIn K mainGlobals "range" = some none)
    (b_zip : PySem.W.nsIn K mainGlobals "zip" = some none)
    (b_enumerate : PySem.W.nsIn K mainGlobals "enumerate" = some none)
    (b_all : PySem.W.nsIn K mainGlobals "all" = some none)
    (b_any : PySem.W.nsIn K mainGlobals "any" = some none)
    (b_sum : PySem.W.nsIn K mainGlobals "sum" = some none)
    (b_min : PySem.W.nsIn K mainGlobals "min" = some none)
    (b_max : PySem.W.nsIn K mainGlobals "max" = some none)
    (b_sorted : PySem.W.nsIn K mainGlobals "sorted" = some none)
    (b_repr : PySem.W.nsIn K mainGlobals "repr" = some none)
    (b_isinstance : PySem.W.nsIn K mainGlobals "isinstance" = some none)
    : ∃ fd : FuncData, (∀ (s : Shared) (v : Value), BindsTo s fd ⟨[v], []⟩ [("_law_script", v)]) ∧
      ∀ base : Heap, K.In base → base.Ns mainGlobals mg → FnG l.prog w K mg base CX0 30 fa fd ["_law_script"] (spLaw K) := by
  have e := hfa.symm.trans (PySem.W.mg_of X G a13)
  cases e
  have A_l_box : At K mg "_law_box" s_l_box _ _ := ⟨fun_mk (st := s_l_box) l0 c0 k0, PySem.W.mg_of X G a0⟩
  have A_l_take : At K mg "_law_take" s_l_take _ _ := ⟨fun_mk (st := s_l_take) l1 c1 k1, PySem.W.mg_of X G a1⟩
  have A_is_integer : At K mg "is_integer" s_is_integer _ _ := ⟨fun_mk (st := s_is_integer) l2 c2 k2, PySem.W.mg_of X G a2⟩
  have A_is_ascending : At K mg "is_ascending" s_is_ascending _ _ := ⟨fun_mk (st := s_is_ascending) l3 c3 k3, PySem.W.mg_of X G a3⟩
  have A_is_name : At K mg "is_name" s_is_name _ _ := ⟨fun_mk (st := s_is_name) l4 c4 k4, PySem.W.mg_of X G a4⟩
  have A_l_deep : At K mg "_law_deep" s_l_deep _ _ := ⟨fun_mk (st := s_l_deep) l5 c5 k5, PySem.W.mg_of X G a5⟩
  have A_l_expected : At K mg "_law_expected" s_l_expected _ _ := ⟨fun_mk (st := s_l_expected) l6 c6 k6, PySem.W.mg_of X G a6⟩
  have A_l_of : At K mg "_law_of" s_l_of _ _ := ⟨fun_mk (st := s_l_of) l7 c7 k7, PySem.W.mg_of X G a7⟩
  have A_is_instruction : At K mg "is_instruction" s_is_instruction _ _ := ⟨fun_mk (st := s_is_instruction) l8 c8 k8, PySem.W.mg_of X G a8⟩
  have A_is_code : At K mg "is_code" s_is_code _ _ := ⟨fun_mk (st := s_is_code) l9 c9 k9, PySem.W.mg_of X G a9⟩
  have A_l_table : At K mg "_law_table" s_l_table _ _ := ⟨fun_mk (st := s_l_table) l10 c10 k10, PySem.W.mg_of X G a10⟩
  have A_are_instructions : At K mg "are_instructions" s_are_instructions _ _ := ⟨fun_mk (st := s_are_instructions) l11 c11 k11, PySem.W.mg_of X G a11⟩
  have A_l_bytes : At K mg "_law_bytes" s_l_bytes _ _ := ⟨fun_mk (st := s_l_bytes) l12 c12 k12, PySem.W.mg_of X G a12⟩
  have A_law : At K mg "law" s_law _ _ := ⟨fun_mk (st := s_law) l13 c13 k13, PySem.W.mg_of X G a13⟩
  have clCInstructionSet : Cls K CInstructionSet := ⟨pgCInstructionSet, hdCInstructionSet, poCInstructionSet, saCInstructionSet⟩
  have F_InstructionSet_init := fun_mk (st := s_InstructionSet_init) lCInstructionSetm0 cCInstructionSetm0 kCInstructionSetm0
  have M_InstructionSet_init : Meth K CInstructionSet "__init__" _ := ⟨aCInstructionSetm0, iCInstructionSetm0, kCInstructionSetm0⟩
  have K_InstructionSet : Mk K CInstructionSet _ := ⟨mkCInstructionSet, aCInstructionSetm0, iCInstructionSetm0, kcCInstructionSet⟩
  have c_LONGEST_NAME : ∃ u, mg "LONGEST_NAME" = some u ∧ L2.RelV (.int 8) u := ⟨_, PySem.W.mg_of X G q_LONGEST_NAME, r_LONGEST_NAME⟩
  have c_LETTERS : ∃ u, mg "LETTERS" = some u ∧ L2.RelV (.str (PySem.Str.ofString "abcdefghijklmnopqrstuvwxyz")) u := ⟨_, PySem.W.mg_of X G q_LETTERS, r_LETTERS⟩
  have c_LONGEST_INSTRUCTION : ∃ u, mg "LONGEST_INSTRUCTION" = some u ∧ L2.RelV (.int 12) u := ⟨_, PySem.W.mg_of X G q_LONGEST_INSTRUCTION, r_LONGEST_INSTRUCTION⟩
  have c_LEAST_BYTE_COUNT : ∃ u, mg "LEAST_BYTE_COUNT" = some u ∧ L2.RelV (.int 2) u := ⟨_, PySem.W.mg_of X G q_LEAST_BYTE_COUNT, r_LEAST_BYTE_COUNT⟩
  have c_GREATEST_BYTE_COUNT : ∃ u, mg "GREATEST_BYTE_COUNT" = some u ∧ L2.RelV (.int 256) u := ⟨_, PySem.W.mg_of X G q_GREATEST_BYTE_COUNT, r_GREATEST_BYTE_COUNT⟩
  have T : Blt mg := ⟨PySem.W.mg_none_of X G b_len, PySem.W.mg_none_of X G b_abs, PySem.W.mg_none_of X G b_int, PySem.W.mg_none_of X G b_bool, PySem.W.mg_none_of X G b_str, PySem.W.mg_none_of X G b_tuple, PySem.W.mg_none_of X G b_list, PySem.W.mg_none_of X G b_dict, PySem.W.mg_none_of X G b_set, PySem.W.mg_none_of X G b_range, PySem.W.mg_none_of X G b_zip, PySem.W.mg_none_of X G b_enumerate, PySem.W.mg_none_of X G b_all, PySem.W.mg_none_of X G b_any, PySem.W.mg_none_of X G b_sum, PySem.W.mg_none_of X G b_min, PySem.W.mg_none_of X G b_max, PySem.W.mg_none_of X G b_sorted, PySem.W.mg_none_of X G b_repr, PySem.W.mg_none_of X G b_isinstance⟩
  let cls : String → Option Addr := fun c => if c = "InstructionSet" then some CInstructionSet else none
  have hcInstructionSet : cls "InstructionSet" = some CInstructionSet := by simp [cls]
  have TT : TX l.prog w K mg cls := ⟨T, ⟨_, _, A_l_box⟩, ⟨_, _, A_l_take⟩, ⟨_, _, A_is_integer⟩, ⟨_, _, A_is_ascending⟩, ⟨_, _, A_is_name⟩, ⟨_, _, A_l_deep⟩, ⟨_, _, A_l_expected⟩, ⟨_, _, A_l_of⟩, ⟨_, _, A_is_instruction⟩, ⟨_, _, A_is_code⟩, ⟨_, _, A_l_table⟩, ⟨_, _, A_are_instructions⟩, ⟨_, _, A_l_bytes⟩, ⟨CInstructionSet, hcInstructionSet, clCInstructionSet, PySem.W.mg_of X G gCInstructionSet, _, _, K_InstructionSet, F_InstructionSet_init⟩, c_LONGEST_NAME, c_LETTERS, c_LONGEST_INSTRUCTION, c_LEAST_BYTE_COUNT, c_GREATEST_BYTE_COUNT, (by
      intro c hc
      simp only [List.mem_cons, List.not_mem_nil, or_false] at hc
      subst hc
      · exact ⟨CInstructionSet, hcInstructionSet, clCInstructionSet, nCInstructionSetbyte_count⟩
      ), (by
      intro c hc
      simp only [List.mem_cons, List.not_mem_nil, or_false] at hc
      subst hc
      · exact ⟨CInstructionSet, hcInstructionSet, clCInstructionSet, nCInstructionSetinstructions⟩
      ), (by
      intro c hc
      simp only [List.mem_cons, List.not_mem_nil, or_false] at hc
      subst hc
      · exact ⟨CInstructionSet, hcInstructionSet, clCInstructionSet, nCInstructionSetby_opcode⟩
      )⟩
  refine ⟨PySem.W.fnOf "law" "law" (defArgs s_law) (defBody s_law) (defScope s_law) .none kV13 dc13 pm13 an13 cd13 ct13, fun s v => .of_eq rfl, fun base _ _ => ?_⟩
  have F := fnG_mk (P := l.prog) (w := w) (base := base) A_law.fn sc_law (spM_len (C := ⟨K, cls, l.prog, w⟩) (xc := false) (f := m_law_k04) rfl) (body_M (n := 10) rfl (qb_law TT))
  exact FnG.mono (law_M F law_k04) (by decide)
end Mi
open PySem PySem.W PyProof.Rows
set_option maxRecDepth 100000 in
set_option maxHeartbeats 0 in
theorem PySem.Challenge.cw_overlapcode_k04_codes_of_any_values_holds : PySem.Challenge.rw_overlapcode_k04_codes_of_any_values.Holds := by
  w_on; o_law; k_head; (case hw => w_witness2)
  k_fill
  refine Ov.walkG (l := PySem.Challenge.rw_overlapcode_k04_codes_of_any_values) (x := "_law_script") rfl rfl (fun w h Y => PySem.W.kIn_of Y) ?F
  case F =>
    intro w mg fa h KX G hmg
    refine' Mi.all_mk KX G hmg ?a0 ?l0 ?c0 ?k0 ?a1 ?l1 ?c1 ?k1 ?a2 ?l2 ?c2 ?k2 ?a3 ?l3 ?c3 ?k3 ?a4 ?l4 ?c4 ?k4 ?a5 ?l5 ?c5 ?k5 ?a6 ?l6 ?c6 ?k6 ?a7 ?l7 ?c7 ?k7 ?a8 ?l8 ?c8 ?k8 ?a9 ?l9 ?c9 ?k9 ?a10 ?l10 ?c10 ?k10 ?a11 ?l11 ?c11 ?k11 ?a12 ?l12 ?c12 ?k12 ?a13 ?l13 ?c13 ?k13 ?gCInstructionSet ?pgCInstructionSet ?hdCInstructionSet ?poCInstructionSet ?saCInstructionSet ?mkCInstructionSet ?kcCInstructionSet ?nCInstructionSetbyte_count ?nCInstructionSetinstructions ?nCInstructionSetby_opcode ?aCInstructionSetm0 ?iCInstructionSetm0 ?lCInstructionSetm0 ?cCInstructionSetm0 ?kCInstructionSetm0 ?q_LONGEST_NAME ?r_LONGEST_NAME ?q_LETTERS ?r_LETTERS ?q_LONGEST_INSTRUCTION ?r_LONGEST_INSTRUCTION ?q_LEAST_BYTE_COUNT ?r_LEAST_BYTE_COUNT ?q_GREATEST_BYTE_COUNT ?r_GREATEST_BYTE_COUNT ?b_len ?b_abs ?b_int ?b_bool ?b_str ?b_tuple ?b_list ?b_dict ?b_set ?b_range ?b_zip ?b_enumerate ?b_all ?b_any ?b_sum ?b_min ?b_max ?b_sorted ?b_repr ?b_isinstance
    (case a0 => k_is)
    (case l0 => k_is)
    (case c0 => k_is)
    (case k0 => k_is)
    (case a1 => k_is)
    (case l1 => k_is)
    (case c1 => k_is)
    (case k1 => k_is)
    (case a2 => k_is)
    (case l2 => k_is)
    (case c2 => k_is)
    (case k2 => k_is)
    (case a3 => k_is)
    (case l3 => k_is)
    (case c3 => k_is)
    (case k3 => k_is)
    (case a4 => k_is)
    (case l4 => k_is)
    (case c4 => k_is)
    (case k4 => k_is)
    (case a5 => k_is)
    (case l5 => k_is)
    (case c5 => k_is)
    (case k5 => k_is)
    (case a6 => k_is)
    (case l6 => k_is)
    (case c6 => k_is)
    (case k6 => k_is)
    (case a7 => k_is)
    (case l7 => k_is)
    (case c7 => k_is)
    (case k7 => k_is)
    (case a8 => k_is)
    (case l8 => k_is)
    (case c8 => k_is)
    (case k8 => k_is)
    (case a9 => k_is)
    (case l9 => k_is)
    (case c9 => k_is)
    (case k9 => k_is)
    (case a10 => k_is)
    (case l10 => k_is)
    (case c10 => k_is)
    (case k10 => k_is)
    (case a11 => k_is)
    (case l11 => k_is)
    (case c11 => k_is)
    (case k11 => k_is)
    (case a12 => k_is)
    (case l12 => k_is)
    (case c12 => k_is)
    (case k12 => k_is)
    (case a13 => k_is)
    (case l13 => k_is)
    (case c13 => k_is)
    (case k13 => k_is)
    (case gCInstructionSet => k_is)
    (case pgCInstructionSet => k_is)
    (case hdCInstructionSet => k_is)
    (case poCInstructionSet => k_is)
    (case saCInstructionSet => k_is)
    (case mkCInstructionSet => k_is)
    (case kcCInstructionSet => k_is)
    (case nCInstructionSetbyte_count => k_is)
    (case nCInstructionSetinstructions => k_is)
    (case nCInstructionSetby_opcode => k_is)
    (case aCInstructionSetm0 => k_is)
    (case iCInstructionSetm0 => k_is)
    (case lCInstructionSetm0 => k_is)
    (case cCInstructionSetm0 => k_is)
    (case kCInstructionSetm0 => k_is)
    (case q_LONGEST_NAME => k_is)
    (case r_LONGEST_NAME => exact ⟨_, rfl⟩)
    (case q_LETTERS => k_is)
    (case r_LETTERS => exact ⟨_, rfl⟩)
    (case q_LONGEST_INSTRUCTION => k_is)
    (case r_LONGEST_INSTRUCTION => exact ⟨_, rfl⟩)
    (case q_LEAST_BYTE_COUNT => k_is)
    (case r_LEAST_BYTE_COUNT => exact ⟨_, rfl⟩)
    (case q_GREATEST_BYTE_COUNT => k_is)
    (case r_GREATEST_BYTE_COUNT => exact ⟨_, rfl⟩)
    (case b_len => k_is)
    (case b_abs => k_is)
    (case b_int => k_is)
    (case b_bool => k_is)
    (case b_str => k_is)
    (case b_tuple => k_is)
    (case b_list => k_is)
    (case b_dict => k_is)
    (case b_set => k_is)
    (case b_range => k_is)
    (case b_zip => k_is)
    (case b_enumerate => k_is)
    (case b_all => k_is)
    (case b_any => k_is)
    (case b_sum => k_is)
    (case b_min => k_is)
    (case b_max => k_is)
    (case b_sorted => k_is)
    (case b_repr => k_is)
    (case b_isinstance => k_is)
#print axioms PySem.Challenge.cw_overlapcode_k04_codes_of_any_values_holds
