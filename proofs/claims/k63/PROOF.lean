import PyProof.Rows.All
import Wide.All
import OpenK.AllK
import Wide.FinOn
import HandS.ForMost
import HandS.Wide
import HandS.IsInst
import PyProof.ReprRoads
import HandS.Walk
import HandS.Zip
import HandS.TupAny
import HandS.SortInts
import HandS.More
import PyProof.StrLawsRepr
import HandS.SetKeys
import HandS.Strs
import HandS.SetBool
import HandS.Lambda
import KE.KDictKeyed
import HandS.TupMul
import HandS.Style
import HandS.Deep
import HandS.TupLe
import PyProof.StrBlock2
import HandS.Conv
import HandS.WordsDict
import PyProof.SetRoads
import HandS.DictComp
import HandS.BoundDict
import HandS.Comp
import HandS.WideMore
import HandS.NoneIn
import HandS.Defaults
import HandS.SetFor
import HandS.SortKw
import KE.DataMinMax
import KE.SortData
import KE.GoesMore
import KE.KDictCopyH
import KE.KTupTabMore
import PyProof.DictUpdate
import HandS.ExcInit
import KE.KExcIs
import HandS.ExcField
import HandS.ExcOwn
import HandS.EndTab
import KE.KEqDict
import PyProof.ExcBaseAll.ValueError
import HandS.ExcValue
import HandS.StrMore
import HandS.FStr
import KE.KNestM
import PySem.Challenge.RW_overlapcode_k63_codes_as_text
set_option Elab.async false
set_option linter.all false
set_option maxRecDepth 100000
set_option maxHeartbeats 4000000
namespace Ov
open PySem PySem.Spec PyProof.Rows L2
/-! ### calls where no repr is under way -/
structure Rm (k : Nat) (A : Around) : Prop where
  r : Room k A
  g : A.guards = some []
theorem Rm.mono {j k : Nat} {A : Around} (h : Rm k A) (l : j ≤ k) : Rm j A := ⟨h.r.mono l, h.g⟩
theorem Rm.deeper {k : Nat} {A : Around} (h : Rm (k + 1) A) (env : Env) : Rm k (A.deeper env) := ⟨h.r.deeper env, h.g⟩
theorem mk_guards {A : Around} {C : Addr} {us : List Value} {kw : List (Str × Value)} :
    (A.under (.builtin "type.__call__" ⟨.ref C :: us, kw⟩)).guards = A.guards := by
  simp [Around.under, Code.guards, Code.isGuard, guardIds, pushGuards]
theorem Rm.make {k : Nat} {A : Around} (h : Rm (k + 1) A) (C : Addr) (us : List Value) (kw : List (Str × Value)) :
    Rm k (A.under (.builtin "type.__call__" ⟨.ref C :: us, kw⟩)) := ⟨h.r.make C us kw, by rw [mk_guards]; exact h.g⟩
structure FnG (P : Program) (w : World) (K : PySem.W.Frag) (mg : Str → Option Value) (base : Heap) (CX : CXT) (k : Nat)
    (f : Addr) (fd : FuncData) (ps : List Str) (sp : Sp) : Prop where
  len : ∀ vs H Q E, sp vs H Q E → vs.length = ps.length
  run : ∀ (A : Around) (outer : List Env) (s : Shared) (H : Hp) (args : Args) (us : List Value) (vs : List V) (Q : VK) (E : XK),
    Rm k A → Env0 P w K mg base A outer s H → BindsTo s fd args (ps.zip us) → Vals vs us → sp vs H Q E →
    codeAny (model P w) A (.call (.ref f) args) (CR CX outer P w H s Q E) s
section
variable {P : Program} {w : World} {K : PySem.W.Frag} {mg : Str → Option Value} {base : Heap} {CX : CXT} {k : Nat} {f : Addr}
theorem fnG_of {name qual : Str} {params : Arguments} {body : List Stmt} {scope : Scope} {dV kV doc pm cdv ct oc : Value}
    {an od : Option Addr} {osl : Array (Option Value)} {N ps : List Str} {sp : Sp}
    (lk : K.lookup f = some ⟨oc, od, .func (PySem.W.fnOf name qual params body scope dV kV doc pm an cdv ct), osl⟩)
    (hcd : PySem.W.codeIn K cdv qual = true) (S : FnScope N ps scope) (len : ∀ vs H Q E, sp vs H Q E → vs.length = ps.length)
    (hbody : ∀ (A : Around) (outer : List Env) (s : Shared) (H : Hp) (vs : List V) (Q : VK) (E : XK),
      Rm k (A.deeper (envOfC qual scope s.heap.objs.size f cdv)) → sp vs H Q E →
      ∃ t, PSs (cxOf CX P w K mg base N qual scope f cdv A outer s H E) body t ∧
        t { nx := fun _ H' => Q .non H', rt := Q } (start N vs) H) :
    FnG P w K mg base CX (k + 1) f (PySem.W.fnOf name qual params body scope dV kV doc pm an cdv ct) ps sp := by
  constructor
  · exact len
  intro A outer s H args us vs Q E hr e0 hb rv hsp
  have kx : K.In s.heap := e0.mod.kin.keeps (fun b o e => (e0.bs b o e).1)
  have nl : s.heap.NoLimit := e0.mod.nolimit.keeps (fun b o e => (e0.bs b o e).1)
  have hkd : ∀ y ∈ ps.zip us, scope.names.lookup y.1 = some .local ∨
      (scope.names.lookup y.1 = some .cell ∧ ((cellsFrom (s.heap.objs.size + 1) scope.names []).lookup y.1).isSome = true) := by
    rintro ⟨n, v⟩ hy
    exact (S.par n (List.of_mem_zip hy).1).elim Or.inl (fun q => Or.inr ⟨q, PySem.W.cellsFrom_some _ _ _ (.inl q)⟩)
  refine codeAny_call_function hr.r.depth (kx _ _ lk) rfl S.co S.gen rfl (PySem.W.codeRec_of kx hcd) (hb _ _ _ _ ?_)
  refine wpAny_newFunctionEnv_cells S.kind hkd ?_
  intro env he s1 x
  subst he
  constructor
  · exact nl.keeps x.toInCall.keep
  apply codeAny_func
  obtain ⟨t, ht, hq⟩ := hbody A outer s H vs Q E (hr.deeper _) hsp
  have I := inv_start (CX := CX) (E := E) S hr.r.hd e0 (len _ _ _ _ hsp) rv x
  refine wpAny_mono (ht.run [] s1 (start N vs) H _ I hq) ?_ (fun e s' hs => hs)
  intro fl s' hs
  cases fl with
  | ret u =>
    obtain ⟨v, σ', H', J, r1, q⟩ := hs
    exact ⟨v, H', J.os, J.bare, J.base, J.hok, r1, q⟩
  | next =>
    obtain ⟨σ', H', J, q⟩ := hs
    exact ⟨V.non, H', J.os, J.bare, J.base, J.hok, rfl, q⟩
  | brk => exact hs.elim fun _ h => h.elim fun _ h => False.elim h.2
  | cont => exact hs.elim fun _ h => h.elim fun _ h => False.elim h.2
theorem FnG.mono {j : Nat} {fd : FuncData} {ps : List Str} {sp : Sp} (F : FnG P w K mg base CX j f fd ps sp) (h : j ≤ k) :
    FnG P w K mg base CX k f fd ps sp := ⟨F.len, fun A o s H a us vs Q E hr => F.run A o s H a us vs Q E (hr.mono h)⟩
end
section
variable {X : Cx} {CX : CXT} {k : Nat} {f C : Addr} {fd : FuncData} {ps : List Str} {sp : Sp} {dvs : List V} {ds : List Value} {E : XK}
  {x m : Str} {p pos apos : Pos} {e o : Expr} {es : List Expr} {ta : TE} {t : TA}
theorem runG {pins : List (Addr × Obj)} {σ : L2.St} {H : Hp} {s : Shared} {Q : VK} {us : List Value} {vs : List V}
    (F : FnG X.prog X.w X.K X.mg X.base CX k f fd ps sp) (hr : Rm k X.A) (hb : Binds X.K fd ps ds) (hd : Vals dvs ds) (hx : Passes CX X E)
    (I : Inv X pins σ H s) (r : Vals vs us) (h : sp (vs ++ dvs) H Q E) :
    wpAny (model X.prog X.w) X.A (call (.ref f) us) (EP X pins σ Q) X.xe s := by
  have r2 : Vals (vs ++ dvs) (us ++ ds) := r.append hd
  have hl : (us ++ ds).length = ps.length := by rw [← r2.length]; exact F.len _ _ _ _ h
  apply wpAny_call
  refine codeAny_mono (F.run X.A X.stack s H ⟨us, []⟩ (us ++ ds) (vs ++ dvs) Q E hr I.env0 (hb s us I.kIn hl) r2 h) ?_
  intro r s' hq
  match r, hq with
  | .error e, hq => exact hx pins σ H s e s' I hq
  | .ok (.ret u), hq => exact I.after hq
theorem peG_call (F : FnG X.prog X.w X.K X.mg X.base CX k f fd ps sp) (hr : Rm k X.A) (hg : Gl X x) (hm : X.mg x = some (.ref f))
    (hk : PySem.W.keepIn X.K (.ref f) = true) (hb : Binds X.K fd ps ds) (hd : Vals dvs ds) (hx : Passes CX X E)
    (ha : PA X (e :: es) t) (hdb : (x == ("__debug__" : Str)) = false := by decide)
    (he : starEach (e :: es) X.env = (false, eval e X.env) :: starEach es X.env := by rfl)
    (hpl : (backTo pos (starEach es X.env)).any (·.1) = false := by rfl) :
    PE X (.Call (.Name x p) (e :: es) [] pos) (tCall sp dvs E t) := by
  constructor
  intro pins s σ H Q I h
  refine wpAny_Call_Name_kw (ld_glob I hg hm ?_ hdb)
  refine PySem.W.callWith_K (h₀ := X.base) I.ok.mod.kin hk ?_ he hpl
  refine thn (ha.run pos pins s σ H _ I h) ?_
  rintro us s1 ⟨vs, H1, I1, r, q⟩
  exact ⟨I1.kIn, runG F hr hb hd hx I1 r q⟩
theorem peG_meth {pl : Sem Bool} (he : PE X o ta) (c : Cls X.K C) (hm : Meth X.K C m f) (F : FnG X.prog X.w X.K X.mg X.base CX k f fd ps sp)
    (hr : Rm k X.A) (hb : Binds X.K fd ps ds) (hd : Vals dvs ds) (hx : Passes CX X E) (ha : PA X (e :: es) t)
    (hst : starEach (e :: es) X.env = (false, eval e X.env) :: starEach es X.env := by rfl)
    (hpl : (backTo pos (starEach es X.env)).any (·.1) = false := by rfl)
    (ht : eval (.Call (.Attribute o m apos) (e :: es) [] pos) X.env = (do
      let ov ← eval o X.env
      standAt apos.atName
      let (f, first) ← holding [ov] (getMethod ov m pl)
      callWith pos f first (backTo pos (starEach (e :: es) X.env)) (backToKw pos (keywordEach [] X.env))) := by rfl) :
    PE X (.Call (.Attribute o m apos) (e :: es) [] pos) (tMeth C m sp dvs E ta t) := by
  constructor
  intro pins s σ H Q I h
  refine PySem.W.methodCall_KW (pl := pl) (thn (he.run pins s σ H _ I h) ?_) ht
  rintro u s1 ⟨x, H1, I1, rx, a, dx, fs, ex, ea, l, q⟩
  subst ex
  obtain rfl : u = Value.ref a := rx
  refine getmeth_ok I1 ea c hm l ?_
  refine PySem.W.callWith_K (first := [.ref a]) (h₀ := X.base) I.ok.mod.kin hm.kp ?_ hst hpl
  refine thn (ha.run pos pins s1 σ H1 _ I1 q) ?_
  rintro us s2 ⟨vs, H2, I2, r, q2⟩
  exact ⟨I2.kIn, runG (us := .ref a :: us) (vs := .ref a :: vs) F hr hb hd hx I2 (.cons rfl r) q2⟩
theorem peG_meth0 {pl : Sem Bool} (he : PE X o ta) (c : Cls X.K C) (hm : Meth X.K C m f) (F : FnG X.prog X.w X.K X.mg X.base CX k f fd ps sp)
    (hr : Rm k X.A) (hb : Binds X.K fd ps ds) (hd : Vals dvs ds) (hx : Passes CX X E)
    (ht : eval (.Call (.Attribute o m apos) [] [] pos) X.env = (do
      let ov ← eval o X.env
      standAt apos.atName
      let (f, first) ← holding [ov] (getMethod ov m pl)
      callWith pos f first (backTo pos (starEach [] X.env)) (backToKw pos (keywordEach [] X.env))) := by rfl) :
    PE X (.Call (.Attribute o m apos) [] [] pos) (tMeth C m sp dvs E ta tNil) := by
  constructor
  intro pins s σ H Q I h
  refine PySem.W.methodCall_KW (pl := pl) (thn (he.run pins s σ H _ I h) ?_) ht
  rintro u s1 ⟨x, H1, I1, rx, a, dx, fs, ex, ea, l, q⟩
  subst ex
  obtain rfl : u = Value.ref a := rx
  refine getmeth_ok I1 ea c hm l ?_
  exact PySem.W.callWith_K0 (first := [.ref a]) I1.kIn hm.kp
    (runG (us := [.ref a]) (vs := [.ref a]) F hr hb hd hx I1 (.cons rfl .nil) q)
theorem runG_make {pins : List (Addr × Obj)} {σ : L2.St} {H : Hp} {s : Shared} {Q : VK} {us : List Value} {vs : List V}
    (M : Mk X.K C f) (F : FnG X.prog X.w X.K X.mg X.base CX k f fd ps sp) (hr : Rm (k + 1) X.A) (hb : Binds X.K fd ps ds) (hd : Vals dvs ds)
    (hx : Passes CX X E) (I : Inv X pins σ H s) (r : Vals vs us)
    (h : ∀ x dx, H x = none → H dx = none → dx ≠ x →
      sp (.ref x :: (vs ++ dvs)) (upd (upd H dx (.own x)) x (.ins C dx [])) (fun v H2 => v = .non ∧ Q (.ref x) H2) E) :
    wpAny (model X.prog X.w) X.A (call (.ref C) us) (EP X pins σ Q) X.xe s := by
  have hq := h (s.heap.objs.size + 1) s.heap.objs.size (I.hok.fresh (Nat.le_succ _)) (I.hok.fresh (Nat.le_refl _))
    (Nat.ne_of_lt (Nat.lt_succ_self _))
  have I2 := Inv.made (C := C) I
  have r2 : Vals (V.ref (s.heap.objs.size + 1) :: (vs ++ dvs)) (Value.ref (s.heap.objs.size + 1) :: (us ++ ds)) := .cons rfl (r.append hd)
  have hl : (Value.ref (s.heap.objs.size + 1) :: us ++ ds).length = ps.length := by
    have e := r2.length
    rw [F.len _ _ _ _ hq] at e
    exact e.symm
  apply wpAny_call
  refine make_map (f := f) I.kIn M.makes M.init (beq_iff_eq.mp M.fn) ?_
  refine codeAny_mono (F.run _ X.stack _ _ ⟨Value.ref (s.heap.objs.size + 1) :: us, []⟩ (Value.ref (s.heap.objs.size + 1) :: (us ++ ds)) _ _ E
    (hr.make C us []) (I2.env0.make C us []) (hb _ (Value.ref (s.heap.objs.size + 1) :: us) I2.kIn hl) r2 hq) ?_
  intro r s' hq'
  match r, hq' with
  | .error e, hq' => exact hx pins σ _ _ e s' I2 hq'
  | .ok (.ret u), hq' =>
    obtain ⟨v, H', I3, rv, ev, q3⟩ := I2.after hq'
    subst ev
    exact ⟨rv, ⟨V.ref (s.heap.objs.size + 1), H', I3, rfl, q3⟩⟩
theorem peG_make (M : Mk X.K C f) (F : FnG X.prog X.w X.K X.mg X.base CX k f fd ps sp) (hr : Rm (k + 1) X.A) (hg : Gl X x)
    (hm : X.mg x = some (.ref C)) (hb : Binds X.K fd ps ds) (hd : Vals dvs ds) (hx : Passes CX X E)
    (ha : PA X (e :: es) t) (hdb : (x == ("__debug__" : Str)) = false := by decide)
    (he : starEach (e :: es) X.env = (false, eval e X.env) :: starEach es X.env := by rfl)
    (hpl : (backTo pos (starEach es X.env)).any (·.1) = false := by rfl) :
    PE X (.Call (.Name x p) (e :: es) [] pos) (tMake C sp dvs E t) := by
  constructor
  intro pins s σ H Q I h
  refine wpAny_Call_Name_kw (ld_glob I hg hm ?_ hdb)
  refine PySem.W.callWith_K (h₀ := X.base) I.ok.mod.kin M.kp ?_ he hpl
  refine thn (ha.run pos pins s σ H _ I h) ?_
  rintro us s1 ⟨vs, H1, I1, r, q⟩
  exact ⟨I1.kIn, runG_make M F hr hb hd hx I1 r q⟩
end
section
variable {X : Cx} {CX : CXT} {k : Nat} {f C : Addr} {fd : FuncData} {ps ks : List Str} {sp : Sp} {E : XK} {x m : Str} {p pos apos kpos : Pos}
  {e o : Expr} {es : List Expr} {kws : List Keyword} {te ta : TE} {t tk : TA} {g : List Value → List Value → List Value} {gV : List V → List V → List V}
theorem runGK {pins : List (Addr × Obj)} {σ : L2.St} {H : Hp} {s : Shared} {Q : VK} {us ws : List Value} {vs zs : List V}
    (F : FnG X.prog X.w X.K X.mg X.base CX k f fd ps sp) (hr : Rm k X.A) (hb : KBinds X.K fd ps ks g gV) (hx : Passes CX X E)
    (I : Inv X pins σ H s) (r : Vals vs us) (rz : Vals zs ws) (h : sp (gV vs zs) H Q E) :
    wpAny (model X.prog X.w) X.A (call (.ref f) us (ks.zip ws)) (EP X pins σ Q) X.xe s := by
  have r2 := hb.rel r rz
  have hl : (g us ws).length = ps.length := by rw [← r2.length]; exact F.len _ _ _ _ h
  apply wpAny_call
  refine codeAny_mono (F.run X.A X.stack s H ⟨us, ks.zip ws⟩ (g us ws) (gV vs zs) Q E hr I.env0 (hb.to s us ws I.kIn hl) r2 h) ?_
  intro r s' hq
  match r, hq with
  | .error e, hq => exact hx pins σ H s e s' I hq
  | .ok (.ret u), hq => exact I.after hq
end
section
variable {X : Cx} {CX : CXT} {k : Nat} {f C : Addr} {fd : FuncData} {ps ks : List Str} {sp : Sp} {E : XK} {x m : Str} {p pos apos kpos : Pos}
  {kws : List Keyword} {tk : TA} {g : List Value → List Value → List Value} {gV : List V → List V → List V}
theorem peG_callK0 (F : FnG X.prog X.w X.K X.mg X.base CX k f fd ps sp) (hr : Rm k X.A) (hg : Gl X x) (hm : X.mg x = some (.ref f))
    (hk : PySem.W.keepIn X.K (.ref f) = true) (hb : KBinds X.K fd ps ks g gV) (hx : Passes CX X E)
    (hkw : PK X kws tk) (hall : (backToKw pos (keywordEach kws X.env)).all (·.1.isSome) = true := by rfl)
    (hks : (backToKw pos (keywordEach kws X.env)).filterMap (·.1) = ks := by rfl)
    (hdb : (x == ("__debug__" : Str)) = false := by decide)
    (hpl : ((backTo pos (starEach [] X.env)).any (·.1) || (backToKw pos (keywordEach kws X.env)).any (·.1.isNone)) = false := by rfl) :
    PE X (.Call (.Name x p) [] kws pos) (tCallK sp gV E tNil tk) := by
  constructor
  intro pins s σ H Q I h
  refine wpAny_Call_Name_kw (ld_glob I hg hm ?_ hdb)
  refine PySem.W.callWith_KW0 (h₀ := X.base) I.ok.mod.kin hk hall ?_ hpl
  refine thn (hkw.run pos pins s σ H _ I h) ?_
  rintro ws s2 ⟨zs, H2, I2, rz, q2⟩
  refine ⟨I2.kIn, ?_⟩
  rw [hks]
  exact runGK (us := []) (vs := []) F hr hb hx I2 .nil rz q2
end
/-! ### repr of data -/
mutual
theorem noDict {K : PySem.W.Frag} {H : Hp} : ∀ (d : PyData) {x : V}, Dp K H x d → d.hasDict = false
  | .none, _, _ => rfl
  | .bool _, _, _ => rfl
  | .int _, _, _ => rfl
  | .str _, _, _ => rfl
  | .list ds, _, h => by cases h with | lst _ ha => simpa [PyData.hasDict] using noDictAll ds ha
  | .tuple ds, _, h => by cases h with | tup _ ha => simpa [PyData.hasDict] using noDictAll ds ha
  | .dict _, _, h => by cases h
theorem noDictAll {K : PySem.W.Frag} {H : Hp} : ∀ (ds : List PyData) {xs : List V}, DpAll K H xs ds → PyData.hasDictAll ds = false
  | [], _, _ => rfl
  | d :: ds, _, h => by cases h with | cons h1 h2 => simp [PyData.hasDictAll, noDict d h1, noDictAll ds h2]
end
theorem call_reprD {X : Cx} (hg : X.A.guards = some []) (hu : X.A.units + 64 < cLine) : CallR X (.builtin "repr") (fun xs H Q =>
    ∃ x d, xs = [x] ∧ Dp X.K H x d ∧ d.showable = true ∧ d.depth ≤ 60 ∧ d.shown.length ≤ sizeLine ∧ Q (.str d.shown) H) := by
  intro pins s σ H xs us Q I r h
  obtain ⟨x, d, rfl, hd, hs, hdp, hz, q⟩ := h
  cases r with
  | cons r0 r1 =>
  cases r1
  rename_i u
  obtain ⟨as, rd⟩ := Dp.reads I d x u hd r0
  have nd := noDict d hd
  cases hd with
  | non => cases r0; exact PySem.P.repr_of_none ⟨.str _, H, I.tok _, ⟨_, rfl⟩, q⟩
  | bl b => cases r0; exact PySem.P.repr_of_bool ⟨.str _, H, I.tok _, ⟨_, rfl⟩, q⟩
  | int i =>
    obtain ⟨t, rfl⟩ := r0
    exact PySem.P.repr_of_int (of_decide_eq_true hs) ⟨.str _, H, I.tok _, ⟨_, rfl⟩, q⟩
  | str z =>
    obtain ⟨t, rfl⟩ := r0
    exact PySem.P.repr_of_str ⟨.str _, H, I.tok _, ⟨_, rfl⟩, q⟩ hz
  | lst h1 h2 =>
    cases r0
    refine repr_of_reads' rd hs (fun z => by rw [nd] at z; cases z) hg (by omega) (fun _ _ e => e) ?_ hz
    intro h' u tk hk
    exact ⟨.str _, H, I.kept hk, ⟨_, rfl⟩, q⟩
  | tup h1 h2 =>
    cases r0
    refine repr_of_reads' rd hs (fun z => by rw [nd] at z; cases z) hg (by omega) (fun _ _ e => e) ?_ hz
    intro h' u tk hk
    exact ⟨.str _, H, I.kept hk, ⟨_, rfl⟩, q⟩
end Ov
set_option maxHeartbeats 4000000
namespace Ov
open PySem PySem.Spec PyProof.Rows L2
/-! ### the end of a law -/
theorem room_caller : Rm 30 callerA := ⟨⟨rfl, by decide, by decide⟩, rfl⟩
/-! ### defs of the text -/
/-- a def of the module, without defaults -/
structure At (K : PySem.W.Frag) (mg : Str → Option Value) (x : Str) (st : Stmt) (f : Addr) (fd : FuncData) : Prop where
  fn : Fun K x x st f fd
  mgf : mg x = some (.ref f)
/-- a def that may be called by its name, every parameter given -/
structure Cal (P : Program) (w : World) (K : PySem.W.Frag) (mg : Str → Option Value) (base : Heap) (CX : CXT) (k : Nat) (x : Str) (ps : List Str) (sp : Sp) : Prop where
  ex : ∃ (f : Addr) (fd : FuncData), FnG P w K mg base CX k f fd ps sp ∧ mg x = some (.ref f) ∧ PySem.W.keepIn K (.ref f) = true ∧ Binds K fd ps [] ∧
    ∃ oc od osl, K.lookup f = some ⟨oc, od, .func fd, osl⟩
/-- .. with keywords -/
structure CalK (P : Program) (w : World) (K : PySem.W.Frag) (mg : Str → Option Value) (base : Heap) (CX : CXT) (k : Nat) (x : Str) (ps ks : List Str) (g : List Value → List Value → List Value) (gV : List V → List V → List V) (sp : Sp) : Prop where
  ex : ∃ (f : Addr) (fd : FuncData), FnG P w K mg base CX k f fd ps sp ∧ mg x = some (.ref f) ∧ PySem.W.keepIn K (.ref f) = true ∧ KBinds K fd ps ks g gV
theorem Cal.kw {P : Program} {w : World} {K : PySem.W.Frag} {mg : Str → Option Value} {base : Heap} {CX : CXT} {k : Nat} {x : Str} {ps ks : List Str} {g : List Value → List Value → List Value} {gV : List V → List V → List V} {sp : Sp} {st : Stmt} {f : Addr} {fd : FuncData}
    (c : Cal P w K mg base CX k x ps sp) (F : At K mg x st f fd) (hg : ∀ (kV doc pm : Value) (an : Option Addr) (cdv ct : Value) (us ws : List Value), (g us ws).length = ps.length →
      bindArgs (PySem.W.fnOf x x (defArgs st) (defBody st) (defScope st) .none kV doc pm an cdv ct) ⟨us, ks.zip ws⟩ = pure (ps.zip (g us ws)))
    (hv : ∀ {vs : List V} {us : List Value} {zs : List V} {ws : List Value}, Vals vs us → Vals zs ws → Vals (gV vs zs) (g us ws)) : CalK P w K mg base CX k x ps ks g gV sp := by
  obtain ⟨f', fd', h1, h2, h3, h4, oc, od, osl, h5⟩ := c.ex
  have e := h2.symm.trans F.mgf
  cases e
  obtain ⟨oc2, od2, kV, doc, pm, an, cdv, ct, osl2, e2, h6, h7⟩ := F.fn.ex
  rw [h5] at h6
  cases h6
  refine ⟨_, _, h1, h2, h3, ?_, hv⟩
  intro s us ws _ hl
  rw [e2]
  exact .of_eq (hg kV doc pm an cdv ct us ws hl)
/-- a method -/
structure Met (P : Program) (w : World) (K : PySem.W.Frag) (mg : Str → Option Value) (base : Heap) (CX : CXT) (k : Nat) (C : Addr) (m : Str) (ps : List Str) (sp : Sp) : Prop where
  ex : ∃ (f : Addr) (fd : FuncData), Cls K C ∧ Meth K C m f ∧ FnG P w K mg base CX k f fd ps sp ∧ Binds K fd ps []
/-- a class to be made by its name -/
structure Mak (P : Program) (w : World) (K : PySem.W.Frag) (mg : Str → Option Value) (base : Heap) (CX : CXT) (k : Nat) (x : Str) (C : Addr) (ps : List Str) (sp : Sp) : Prop where
  ex : ∃ (f : Addr) (fd : FuncData), Mk K C f ∧ FnG P w K mg base CX k f fd ps sp ∧ mg x = some (.ref C) ∧ Binds K fd ps []
section
variable {X : Cx} {k j : Nat} {C : Addr} {x m : Str} {ps : List Str} {sp : Sp} {p pos apos : Pos} {e o : Expr} {es : List Expr} {ta : TE} {t : TA}
/-- f(e, ..) of a def that raises nothing -/
theorem pc (c : Cal X.prog X.w X.K X.mg X.base CX0 k x ps sp) (hr : Rm j X.A) (ha : PA X (e :: es) t) (hk : k ≤ j := by decide) (hg : Gl X x := by rfl)
    (hdb : (x == ("__debug__" : Str)) = false := by decide)
    (he : starEach (e :: es) X.env = (false, eval e X.env) :: starEach es X.env := by rfl)
    (hpl : (backTo pos (starEach es X.env)).any (·.1) = false := by rfl) :
    PE X (.Call (.Name x p) (e :: es) [] pos) (tCall sp [] E0 t) := by
  obtain ⟨f, fd, F, hm, kp, b, _⟩ := c.ex
  exact peG_call F (hr.mono hk) hg hm kp b .nil pass0 ha hdb he hpl
/-- f(k = e, ..) -/
theorem pck {kws : List Keyword} {tk : TA} {ks : List Str} {g : List Value → List Value → List Value} {gV : List V → List V → List V} (c : CalK X.prog X.w X.K X.mg X.base CX0 k x ps ks g gV sp) (hr : Rm j X.A) (hkw : PK X kws tk)
    (hk : k ≤ j := by decide) (hg : Gl X x := by rfl)
    (hall : (backToKw pos (keywordEach kws X.env)).all (·.1.isSome) = true := by rfl)
    (hks : (backToKw pos (keywordEach kws X.env)).filterMap (·.1) = ks := by rfl) (hdb : (x == ("__debug__" : Str)) = false := by decide)
    (hpl : ((backTo pos (starEach [] X.env)).any (·.1) || (backToKw pos (keywordEach kws X.env)).any (·.1.isNone)) = false := by rfl) :
    PE X (.Call (.Name x p) [] kws pos) (tCallK sp gV E0 tNil tk) := by
  obtain ⟨f, fd, F, hm, kp, b⟩ := c.ex
  exact peG_callK0 F (hr.mono hk) hg hm kp b pass0 hkw hall hks hdb hpl
theorem pm {pl : Sem Bool} (c : Met X.prog X.w X.K X.mg X.base CX0 k C m ps sp) (hr : Rm j X.A) (ho : PE X o ta) (ha : PA X (e :: es) t) (hk : k ≤ j := by decide)
    (hst : starEach (e :: es) X.env = (false, eval e X.env) :: starEach es X.env := by rfl)
    (hpl : (backTo pos (starEach es X.env)).any (·.1) = false := by rfl)
    (ht : eval (.Call (.Attribute o m apos) (e :: es) [] pos) X.env = (do
      let ov ← eval o X.env
      standAt apos.atName
      let (f, first) ← holding [ov] (getMethod ov m pl)
      callWith pos f first (backTo pos (starEach (e :: es) X.env)) (backToKw pos (keywordEach [] X.env))) := by rfl) :
    PE X (.Call (.Attribute o m apos) (e :: es) [] pos) (tMeth C m sp [] E0 ta t) := by
  obtain ⟨f, fd, cl, me, F, b⟩ := c.ex
  exact peG_meth ho cl me F (hr.mono hk) b .nil pass0 ha hst hpl ht
theorem pm0 {pl : Sem Bool} (c : Met X.prog X.w X.K X.mg X.base CX0 k C m ps sp) (hr : Rm j X.A) (ho : PE X o ta) (hk : k ≤ j := by decide)
    (ht : eval (.Call (.Attribute o m apos) [] [] pos) X.env = (do
      let ov ← eval o X.env
      standAt apos.atName
      let (f, first) ← holding [ov] (getMethod ov m pl)
      callWith pos f first (backTo pos (starEach [] X.env)) (backToKw pos (keywordEach [] X.env))) := by rfl) :
    PE X (.Call (.Attribute o m apos) [] [] pos) (tMeth C m sp [] E0 ta tNil) := by
  obtain ⟨f, fd, cl, me, F, b⟩ := c.ex
  exact peG_meth0 ho cl me F (hr.mono hk) b .nil pass0 ht
theorem pmk (c : Mak X.prog X.w X.K X.mg X.base CX0 k x C ps sp) (hr : Rm j X.A) (ha : PA X (e :: es) t) (hk : k + 1 ≤ j := by decide) (hg : Gl X x := by rfl)
    (hdb : (x == ("__debug__" : Str)) = false := by decide)
    (he : starEach (e :: es) X.env = (false, eval e X.env) :: starEach es X.env := by rfl)
    (hpl : (backTo pos (starEach es X.env)).any (·.1) = false := by rfl) :
    PE X (.Call (.Name x p) (e :: es) [] pos) (tMake C sp [] E0 t) := by
  obtain ⟨f, fd, M, F, hm, b⟩ := c.ex
  exact peG_make M F (hr.mono hk) hg hm b .nil pass0 ha hdb he hpl
end
section
variable {P : Program} {w : World} {K : PySem.W.Frag} {mg : Str → Option Value} {base : Heap} {k : Nat} {sp : Sp} {N ps : List Str} {st : Stmt} {f : Addr} {fd : FuncData}
/-- the body of a def that raises nothing -/
def Body (P : Program) (w : World) (K : PySem.W.Frag) (mg : Str → Option Value) (base : Heap) (k : Nat) (qual : Str) (st : Stmt) (f : Addr) (N : List Str) (sp : Sp) : Prop :=
  ∀ (cdv : Value) (A : Around) (outer : List Env) (s : Shared) (H : Hp) (vs : List V) (Q : VK) (E : XK),
    Rm k (A.deeper (envOfC qual (defScope st) s.heap.objs.size f cdv)) → sp vs H Q E →
    ∃ t, PSs (cxOf CX0 P w K mg base N qual (defScope st) f cdv A outer s H E).nox (defBody st) t ∧
      t { nx := fun _ H' => Q .non H', rt := Q } (start N vs) H
theorem fnG_mk {x qual : Str} (F : Fun K x qual st f fd) (S : FnScope N ps (defScope st)) (len : ∀ vs H Q E, sp vs H Q E → vs.length = ps.length)
    (hbody : Body P w K mg base k qual st f N sp) : FnG P w K mg base CX0 (k + 1) f fd ps sp := by
  obtain ⟨oc, od, kV, doc, pm, an, cdv, ct, osl, rfl, lk, hcd⟩ := F.ex
  refine fnG_of lk hcd S len ?_
  intro A outer s H vs Q E hr hsp
  obtain ⟨t, h, q⟩ := hbody cdv A outer s H vs Q E hr hsp
  exact ⟨t, h.nox, q⟩
theorem cal_mk {x : Str} (F : At K mg x st f fd) (b : Binds K fd ps []) (S : FnScope N ps (defScope st)) (len : ∀ vs H Q E, sp vs H Q E → vs.length = ps.length)
    (hbody : Body P w K mg base k x st f N sp) : Cal P w K mg base CX0 (k + 1) x ps sp :=
  ⟨f, fd, fnG_mk F.fn S len hbody, F.mgf, F.fn.kp, b, let ⟨oc, od, _, _, _, _, _, _, osl, _, h, _⟩ := F.fn.ex; ⟨oc, od, osl, h⟩⟩
theorem mak_mk {C : Addr} {x qual : Str} (M : Mk K C f) (hm : mg x = some (.ref C)) (F : Fun K "__init__" qual st f fd) (b : Binds K fd ps []) (S : FnScope N ps (defScope st))
    (len : ∀ vs H Q E, sp vs H Q E → vs.length = ps.length) (hbody : Body P w K mg base k qual st f N sp) : Mak P w K mg base CX0 (k + 1) x C ps sp :=
  ⟨f, fd, M, fnG_mk F S len hbody, hm, b⟩
end
end Ov
set_option maxHeartbeats 4000000
namespace Ov
open PySem PySem.Spec PyProof.Rows L2
/-- what a reading may ask for without being a loop -/
class Plain (α : Type) : Prop where
  ok : True
instance : Plain V := ⟨trivial⟩
instance : Plain Int := ⟨trivial⟩
instance : Plain Nat := ⟨trivial⟩
instance : Plain Bool := ⟨trivial⟩
instance : Plain Str := ⟨trivial⟩
instance : Plain Obj := ⟨trivial⟩
instance : Plain Value := ⟨trivial⟩
instance : Plain String := ⟨trivial⟩
instance : Plain PyData := ⟨trivial⟩
instance : Plain HO := ⟨trivial⟩
instance {α : Type} : Plain (List α) := ⟨trivial⟩
instance {α : Type} : Plain (Option α) := ⟨trivial⟩
instance {α : Type} : Plain (Array α) := ⟨trivial⟩
instance {α β : Type} : Plain (α × β) := ⟨trivial⟩
instance {α β : Type} : Plain (Sum α β) := ⟨trivial⟩
instance : Plain Hp := ⟨trivial⟩
/-! ### heaps -/
/-- all but what stands at b is as it was -/
def SameB (b : Addr) (H H' : Hp) : Prop := ∀ a o, a ≠ b → H a = some o → H' a = some o
theorem SameB.refl (b : Addr) (H : Hp) : SameB b H H := fun _ _ _ h => h
theorem SameB.trans {b : Addr} {H H1 H2 : Hp} (x : SameB b H H1) (y : SameB b H1 H2) : SameB b H H2 := fun a o n h => y a o n (x a o n h)
theorem SameB.same {b : Addr} {H H1 H2 : Hp} (x : SameB b H H1) (y : Same H1 H2) : SameB b H H2 := fun a o n h => y a o (x a o n h)
theorem same_new {H : Hp} {p : Addr} {o : HO} (h : H p = none) : Same H (upd H p o) := fun a u e => by rw [upd_ne (ne_of_none e h)]; exact e
theorem SameB.new {b n : Addr} {H H1 : Hp} {o : HO} (x : SameB b H H1) (h : H1 n = none) : SameB b H (upd H1 n o) := x.same (same_new h)
theorem SameB.mut {b n : Addr} {H H1 : Hp} {o : HO} (x : SameB b H H1) (h : H n = none) : SameB b H (upd H1 n o) := fun a u h1 h2 => by
  rw [upd_ne (ne_of_none h2 h)]
  exact x a u h1 h2
theorem SameB.free {b l : Addr} {H H1 : Hp} (x : SameB b H H1) (n : l ≠ b) (h : H1 l = none) : H l = none := by
  cases q : H l with
  | none => rfl
  | some o =>
    rw [x l o n q] at h
    cases h
theorem sqT_of {K : PySem.W.Frag} {H : Hp} {a : Addr} {xs : List V} (h : H a = some (.tup xs)) : SqT K H a xs := Or.inl (Or.inl h)
theorem sqL_of {K : PySem.W.Frag} {H : Hp} {a : Addr} {xs : List V} (h : H a = some (.lst xs)) : SqL K H a xs := Or.inl (Or.inl h)
theorem Same.seqT {K : PySem.W.Frag} {H H' : Hp} {a : Addr} {xs : List V} (e : Same H H') (h : SqT K H a xs) : SqT K H' a xs := by
  rcases h with (h | ⟨o, h⟩) | h
  · exact .inl (.inl (e _ _ h))
  · exact .inl (.inr ⟨o, e _ _ h⟩)
  · exact .inr h
/-! ### built-in names that the module does not hide -/
structure Blt (mg : Str → Option Value) : Prop where
  b_len : mg "len" = none
  b_abs : mg "abs" = none
  b_int : mg "int" = none
  b_bool : mg "bool" = none
  b_str : mg "str" = none
  b_tuple : mg "tuple" = none
  b_list : mg "list" = none
  b_dict : mg "dict" = none
  b_set : mg "set" = none
  b_range : mg "range" = none
  b_zip : mg "zip" = none
  b_enumerate : mg "enumerate" = none
  b_all : mg "all" = none
  b_any : mg "any" = none
  b_sum : mg "sum" = none
  b_min : mg "min" = none
  b_max : mg "max" = none
  b_sorted : mg "sorted" = none
  b_repr : mg "repr" = none
  b_isinstance : mg "isinstance" = none
/-! ### the box of drawn numbers -/
def boxTop : Int := 10 ^ 240
def seedTop : Int := 2305843009213693951
structure BoxAt (H : Hp) (b : Addr) (N : Nat) : Prop where
  ex : ∃ o s n : Int, H b = some (.lst [.int o, .int s, .int n]) ∧ 0 ≤ o ∧ o < boxTop ∧ 0 ≤ s ∧ s < seedTop ∧ 0 ≤ n ∧ n ≤ (N : Int)
theorem BoxAt.mono {H : Hp} {b : Addr} {N M : Nat} (x : BoxAt H b N) (h : N ≤ M) : BoxAt H b M := by
  obtain ⟨o, s, n, h1, h2, h3, h4, h5, h6, h7⟩ := x.ex
  exact ⟨o, s, n, h1, h2, h3, h4, h5, h6, by omega⟩
theorem BoxAt.same {H H' : Hp} {b : Addr} {N : Nat} (x : BoxAt H b N) (s : Same H H') : BoxAt H' b N := by
  obtain ⟨o, r, n, h1, h⟩ := x.ex
  exact ⟨o, r, n, s _ _ h1, h⟩
end Ov
set_option maxHeartbeats 4000000
namespace Ov
open PySem PySem.Spec PyProof.Rows L2 RZ
/-! ### tuples, any slice and sum alike -/
/-! ### walks -/
theorem walk_zipT {K : PySem.W.Frag} {a b : Addr} {xs ys : List V} {n : Nat} (hn : n = min xs.length ys.length) :
    Walk (ItzT K a b) n (fun H => SqT K H a xs ∧ SqT K H b ys) (YPair (fun i => xs[i]?) (fun i => ys[i]?)) := by
  subst hn
  refine ⟨?_, ?_, ?_⟩
  · intro i H hi q
    have h1 : i < xs.length := by omega
    have h2 : i < ys.length := by omega
    exact ⟨xs, ys, xs[i], ys[i], q.1, q.2, by simp [h1], by simp [h2]⟩
  · intro H q
    exact ⟨xs, ys, q.1, q.2, by omega⟩
  · intro i H v H' _ q y
    obtain ⟨T, x, y, h1, h2, h3, h4⟩ := y
    exact ⟨T, x, y, h1, h2, h3, h4.1 xs q.1, h4.2 ys q.2⟩
/-! ### comprehensions that only add to the heap -/
end Ov
set_option linter.all false
namespace Ov
/-! ### sums of lengths and the table of least sums -/
inductive Sums (ls : List Nat) : Nat → Prop
  | zero : Sums ls 0
  | add {t a : Nat} : Sums ls t → a ∈ ls → Sums ls (t + a)
theorem Sums.mono {ls ms : List Nat} (h : ∀ a ∈ ls, a ∈ ms) {t : Nat} (s : Sums ls t) : Sums ms t := by
  induction s with
  | zero => exact .zero
  | add _ hm ih => exact .add ih (h _ hm)
theorem Sums.mul {ls : List Nat} {a : Nat} (ha : a ∈ ls) {t : Nat} (s : Sums ls t) : ∀ k : Nat, Sums ls (t + k * a)
  | 0 => by simpa using s
  | k + 1 => by
    have := Sums.add (Sums.mul ha s k) ha
    rwa [Nat.add_assoc, ← Nat.succ_mul] at this
theorem sums_more {ls : List Nat} {L t : Nat} : Sums (ls ++ [L]) t ↔ ∃ s k, Sums ls s ∧ t = s + k * L := by
  constructor
  · intro h
    induction h with
    | zero => exact ⟨0, 0, .zero, by simp⟩
    | add _ hm ih =>
      obtain ⟨s, k, h1, rfl⟩ := ih
      rcases List.mem_append.mp hm with h2 | h2
      · exact ⟨_, k, .add h1 h2, by omega⟩
      · have := List.mem_singleton.mp h2
        subst this
        exact ⟨s, k + 1, h1, by rw [Nat.succ_mul]; omega⟩
  · rintro ⟨s, k, h1, rfl⟩
    exact Sums.mul (by simp) (h1.mono (by simp +contextual)) k
def EntOk (S : Nat → Prop) (m r : Nat) : Option Nat → Prop
  | none => ∀ s, S s → s % m ≠ r
  | some t => S t ∧ t % m = r ∧ ∀ s, S s → s % m = r → t ≤ s
structure AOk (S : Nat → Prop) (ls : List Nat) (lv av : List (Option Nat)) : Prop where
  len : av.length = lv.length
  som : ∀ r L : Nat, av[r]? = some (some L) → ∃ t, lv[r]? = some (some t) ∧ L ∈ ls ∧ L ≤ t ∧ S (t - L)
  has : ∀ r t : Nat, r ≠ 0 → lv[r]? = some (some t) → ∃ L, av[r]? = some (some L)
theorem AOk.mono {S S' : Nat → Prop} {ls ms : List Nat} {lv av : List (Option Nat)} (h : AOk S ls lv av) (hs : ∀ s, S s → S' s) (hl : ∀ a ∈ ls, a ∈ ms) : AOk S' ms lv av :=
  ⟨h.len, fun r L e => let ⟨t, h1, h2, h3, h4⟩ := h.som r L e; ⟨t, h1, hl _ h2, h3, hs _ h4⟩, h.has⟩
theorem AOk.set {S : Nat → Prop} {ls : List Nat} {lv av : List (Option Nat)} (h : AOk S ls lv av) {r t L : Nat} (hr : r < lv.length) (hL : L ∈ ls) (ht : L ≤ t) (hS : S (t - L)) :
    AOk S ls (lv.set r (some t)) (av.set r (some L)) := by
  refine ⟨by simp [h.len], ?_, ?_⟩
  · intro q M e
    rw [List.getElem?_set] at e
    rw [List.getElem?_set]
    by_cases hq : r = q
    · rw [if_pos hq] at e
      rw [if_pos hq, if_pos hr]
      rw [if_pos (by rw [h.len]; exact hr)] at e
      cases e
      exact ⟨t, rfl, hL, ht, hS⟩
    · rw [if_neg hq] at e
      rw [if_neg hq]
      exact h.som q M e
  · intro q u hq e
    rw [List.getElem?_set] at e
    rw [List.getElem?_set]
    by_cases hq : r = q
    · rw [if_pos hq, if_pos (by rw [h.len]; exact hr)]
      exact ⟨L, rfl⟩
    · rw [if_neg hq] at e
      rw [if_neg hq]
      exact h.has q u (by assumption) e
structure TabOk (ls : List Nat) (m : Nat) (lv av : List (Option Nat)) : Prop where
  len : lv.length = m
  ent : ∀ r, r < m → ∃ e, lv[r]? = some e ∧ EntOk (Sums ls) m r e
  add : AOk (Sums ls) ls lv av
/-! ### residues along a length -/
theorem bez (a b : Nat) : ∃ x y : Int, ((Nat.gcd a b : Nat) : Int) = (a : Int) * x + (b : Int) * y := by
  induction a, b using Nat.gcd.induction with
  | H0 n => exact ⟨0, 1, by simp⟩
  | H1 m n hm ih =>
    obtain ⟨x, y, e⟩ := ih
    refine ⟨y - (n / m : Nat) * x, x, ?_⟩
    rw [Nat.gcd_rec, e]
    have h : (n : Int) = (m : Int) * ((n / m : Nat) : Int) + ((n % m : Nat) : Int) := by exact_mod_cast (Nat.div_add_mod n m).symm
    generalize ((n / m : Nat) : Int) = q at *
    generalize ((n % m : Nat) : Int) = r at *
    rw [h, Int.mul_sub, Int.add_mul, Int.mul_assoc]
    omega
/-! ### going round -/
/-! ### a table answers -/
theorem tab_has {ls : List Nat} {m t : Nat} {lv av : List (Option Nat)} (T : TabOk ls m lv av) (hm : m ∈ ls) (h0 : 0 < m) :
    Sums ls t ↔ ∃ u, lv[t % m]? = some (some u) ∧ u ≤ t := by
  obtain ⟨e, e1, e2⟩ := T.ent (t % m) (Nat.mod_lt _ h0)
  constructor
  · intro h
    cases e with
    | none => exact absurd rfl (e2 t h)
    | some u => exact ⟨u, e1, e2.2.2 t h rfl⟩
  · rintro ⟨u, h1, h2⟩
    rw [h1] at e1
    cases e1
    have : t = u + (t - u) / m * m := by
      have hd : m ∣ t - u := Nat.dvd_of_mod_eq_zero (Nat.sub_mod_eq_zero_of_mod_eq e2.2.1.symm)
      rw [Nat.div_mul_cancel hd]
      omega
    rw [this]
    exact Sums.mul hm e2.1 _
end Ov
set_option linter.all false
namespace Ov
/-! ### divisors -/
def gcdL (ls : List Nat) : Nat := ls.foldl Nat.gcd 0
theorem gcd_fold_dvd : ∀ (ls : List Nat) (a : Nat), ls.foldl Nat.gcd a ∣ a ∧ ∀ x ∈ ls, ls.foldl Nat.gcd a ∣ x
  | [], a => ⟨Nat.dvd_refl a, fun x h => absurd h List.not_mem_nil⟩
  | y :: ls, a => by
    have ih := gcd_fold_dvd ls (Nat.gcd a y)
    refine ⟨Nat.dvd_trans ih.1 (Nat.gcd_dvd_left a y), ?_⟩
    intro x hx
    rcases List.mem_cons.mp hx with rfl | hx
    · exact Nat.dvd_trans ih.1 (Nat.gcd_dvd_right a x)
    · exact ih.2 x hx
theorem dvd_gcd_fold : ∀ (ls : List Nat) (a d : Nat), d ∣ a → (∀ x ∈ ls, d ∣ x) → d ∣ ls.foldl Nat.gcd a
  | [], a, d, h, _ => h
  | y :: ls, a, d, h, h2 => dvd_gcd_fold ls _ d (Nat.dvd_gcd h (h2 y (List.mem_cons_self ..))) fun x hx => h2 x (List.mem_cons_of_mem _ hx)
theorem gcdL_dvd {ls : List Nat} {x : Nat} (h : x ∈ ls) : gcdL ls ∣ x := (gcd_fold_dvd ls 0).2 x h
theorem dvd_gcdL {ls : List Nat} {d : Nat} (h : ∀ x ∈ ls, d ∣ x) : d ∣ gcdL ls := dvd_gcd_fold ls 0 d (Nat.dvd_zero d) h
/-! ### a least sum is below m times the greatest length -/
/-! ### finding least sums by going up -/
end Ov
set_option maxHeartbeats 4000000
namespace Ov
open PySem PySem.Spec PyProof.Rows L2 RZ
/-! ### isinstance with a built-in class -/
inductive Kd | non | bl | int | str | lst | tup | dic
instance : Plain Kd := ⟨trivial⟩
def Kd.ty : Kd → String
  | .non => "NoneType" | .bl => "bool" | .int => "int" | .str => "str" | .lst => "list" | .tup => "tuple" | .dic => "dict"
def Kd.isInt : Kd → Bool | .int => true | .bl => true | _ => false
def Kd.isBool : Kd → Bool | .bl => true | _ => false
def Kd.isStr : Kd → Bool | .str => true | _ => false
def Kd.isTuple : Kd → Bool | .tup => true | _ => false
def Kd.isList : Kd → Bool | .lst => true | _ => false
def Kd.isDict : Kd → Bool | .dic => true | _ => false
inductive HasKd (K : PySem.W.Frag) (H : Hp) : V → Kd → Prop
  | non : HasKd K H .non .non
  | bl (b : Bool) : HasKd K H (.bl b) .bl
  | int (i : Int) : HasKd K H (.int i) .int
  | str (x : Str) : HasKd K H (.str x) .str
  | lst {a : Addr} {xs : List V} (h : SqL K H a xs) : HasKd K H (.ref a) .lst
  | tup {a : Addr} {xs : List V} (h : SqT K H a xs) : HasKd K H (.ref a) .tup
  | dic {a : Addr} {kvs : List (Key × V)} (h : H a = some (.dK kvs)) : HasKd K H (.ref a) .dic
theorem HasKd.tyx {K : PySem.W.Frag} {H : Hp} {v : V} {k : Kd} (h : HasKd K H v k) : TyX K H v (.type k.ty) := by
  cases h with
  | non => exact .base .non
  | bl b => exact .base (.bl b)
  | int i => exact .base (.int i)
  | str x => exact .base (.str x)
  | lst h =>
    rcases h with (h | ⟨o, h⟩) | ⟨o, its, n, h1, h2, _⟩
    · exact .base (.lst h)
    · exact .base (.frz h)
    · exact .kList h1 h2
  | tup h =>
    rcases h with (h | ⟨o, h⟩) | ⟨o, its, n, h1, h2, _⟩
    · exact .base (.tup h)
    · exact .fTuple h
    · exact .kTuple h1 h2
  | dic h => exact .base (.dK h)
theorem HasKd.same {K : PySem.W.Frag} {H H' : Hp} {v : V} {k : Kd} (s : Same H H') (h : HasKd K H v k) : HasKd K H' v k := by
  cases h with
  | non => exact .non
  | bl b => exact .bl b
  | int i => exact .int i
  | str x => exact .str x
  | lst h => exact .lst (s.seq h)
  | tup h => exact .tup (Same.seqT s h)
  | dic h => exact .dic (s _ _ h)
def rIsa (K : PySem.W.Frag) (T : String) (f : Kd → Bool) : List V → Hp → VK → Prop := fun xs H Q => ∃ x k, xs = [x, .ty T] ∧ HasKd K H x k ∧ Q (.bl (f k)) H
theorem isa_mk {X : Cx} {T : String} {f : Kd → Bool} (h : ∀ k : Kd, kitB k.ty T = some (f k)) : CallR X (.builtin "isinstance") (rIsa X.K T f) := by
  intro pins s σ H xs us Q I r hq
  obtain ⟨x, k, rfl, hk, q⟩ := hq
  exact call_isi pins s σ H _ us Q I r ⟨x, .ty T, .type k.ty, .type T, f k, rfl, .ty T, hk.tyx, kit_ty (h k), q⟩
/-! ### what the small defs promise -/
def oV : Option Nat → V
  | none => .non
  | some n => .int (n : Int)
/-- ascending, without duplicates -/
def asc : List Int → Bool
  | [] => true
  | [_] => true
  | a :: b :: r => decide (a < b) && asc (b :: r)
/-! ### SumTable -/
structure TabFs (m : Nat) (l a : Addr) (fs : List (Str × V)) : Prop where
  fM : fs.lookup ("modulus" : Str) = some (.int (m : Int))
  fL : fs.lookup ("least" : Str) = some (.ref l)
  fA : fs.lookup ("added" : Str) = some (.ref a)
  n1 : fs.lookup ("add_length" : Str) = none
  n2 : fs.lookup ("go_round" : Str) = none
  n3 : fs.lookup ("has" : Str) = none
/-- a table at p, its lists at l and a -/
structure TabAt (C : Addr) (H : Hp) (p l a : Addr) (m : Nat) (lv av : List (Option Nat)) : Prop where
  ob : ∃ dx fs, H p = some (.ins C dx fs) ∧ TabFs m l a fs
  hl : H l = some (.lst (lv.map oV))
  ha : H a = some (.lst (av.map oV))
  ne : l ≠ a
theorem TabAt.same {C : Addr} {H H' : Hp} {p l a : Addr} {m : Nat} {lv av : List (Option Nat)} (t : TabAt C H p l a m lv av) (s : Same H H') : TabAt C H' p l a m lv av := by
  obtain ⟨⟨dx, fs, h1, h2⟩, h3, h4, h5⟩ := t
  exact ⟨⟨dx, fs, s _ _ h1, h2⟩, s _ _ h3, s _ _ h4, h5⟩
/-- what stands elsewhere is kept -/
def Same2 (l a : Addr) (H H' : Hp) : Prop := ∀ b o, b ≠ l → b ≠ a → H b = some o → H' b = some o
end Ov
set_option maxHeartbeats 4000000
namespace Ov
open PySem PySem.Spec PyProof.Rows L2 RZ
/-! ### the rules with the written part named (a comprehension's block has the same) -/
section
variable {X : Cx}
theorem k_eqD (K : PySem.W.Frag) (hu : X.A.units + 64 < cLine) (h : X.K = K := by rfl) : OpR X (compareOp .Eq) (rEqD K) := h ▸ op_eqD hu
theorem k_neD (K : PySem.W.Frag) (hu : X.A.units + 64 < cLine) (h : X.K = K := by rfl) : OpR X (compareOp .NotEq) (rNeD K) := h ▸ op_neD hu
def rLenS (K : PySem.W.Frag) : List V → Hp → VK → Prop := fun xs H Q => ∃ p ys, xs = [.ref p] ∧ (SqL K H p ys ∨ SqT K H p ys) ∧ Q (.int (ys.length : Int)) H
theorem k_all (K : PySem.W.Frag) (hc : X.calm = true := by rfl) (h : X.K = K := by rfl) : CallR X (.builtin "all") (rAll K) := h ▸ cr_all hc
theorem k_repr (K : PySem.W.Frag) (hg : X.A.guards = some []) (hu : X.A.units + 64 < cLine) (h : X.K = K := by rfl) : CallR X (.builtin "repr") (fun xs H Q =>
    ∃ x d, xs = [x] ∧ Dp K H x d ∧ d.showable = true ∧ d.depth ≤ 60 ∧ d.shown.length ≤ sizeLine ∧ Q (.str d.shown) H) := h ▸ call_reprD hg hu
variable {e o l : Expr} {ta tl tv : TE} {f : Str} {pos pos' : Pos} {tg : Expr}
variable {es : List Expr} {to : TE} {t : TA} {name : Str} {apos cpos : Pos} {T id : String} {r : V → List V → Hp → VK → Prop}
end
end Ov
set_option maxHeartbeats 4000000
namespace Ov
open PySem PySem.Spec PyProof.Rows L2 RZ
/-! ### data of small depth -/
mutual
def plainD : Nat → PyData → Bool
  | _, .none => true
  | _, .bool _ => true
  | _, .int _ => true
  | _, .str x => PyData.strOk x
  | 0, .list _ => false
  | 0, .tuple _ => false
  | n + 1, .list xs => plainA n xs
  | n + 1, .tuple xs => plainA n xs
  | _, .dict _ => false
def plainA : Nat → List PyData → Bool
  | _, [] => true
  | n, x :: xs => plainD n x && plainA n xs
end
mutual
theorem plain_lay : ∀ (d : PyData) (n : Nat), plainD n d = true → d.canLay0 = true ∧ d.depth ≤ n
  | .none, n, _ => ⟨rfl, Nat.zero_le n⟩
  | .bool _, n, _ => ⟨rfl, Nat.zero_le n⟩
  | .int _, n, _ => ⟨rfl, Nat.zero_le n⟩
  | .str x, n, h => ⟨by cases n <;> simpa [plainD, PyData.canLay0] using h, Nat.zero_le n⟩
  | .list xs, 0, h => by simp [plainD] at h
  | .tuple xs, 0, h => by simp [plainD] at h
  | .list xs, n + 1, h => by
    have := plain_layA xs n (by simpa [plainD] using h)
    exact ⟨by simpa [PyData.canLay0] using this.1, by simp only [PyData.depth]; omega⟩
  | .tuple xs, n + 1, h => by
    have := plain_layA xs n (by simpa [plainD] using h)
    exact ⟨by simpa [PyData.canLay0] using this.1, by simp only [PyData.depth]; omega⟩
  | .dict _, n, h => by cases n <;> simp [plainD] at h
theorem plain_layA : ∀ (ds : List PyData) (n : Nat), plainA n ds = true → PyData.canLayAll0 ds = true ∧ PyData.depthAll ds ≤ n
  | [], n, _ => ⟨rfl, Nat.zero_le n⟩
  | d :: ds, n, h => by
    simp only [plainA, Bool.and_eq_true] at h
    have h1 := plain_lay d n h.1
    have h2 := plain_layA ds n h.2
    exact ⟨by simp [PyData.canLayAll0, h1.1, h2.1], by simp only [PyData.depthAll]; omega⟩
end
theorem shaped_of {d : PyData} {n : Nat} (h : plainD n d = true) (hn : n ≤ 64) : SeqAt.shaped d = true := by
  have := plain_lay d n h
  simp only [SeqAt.shaped, Bool.and_eq_true, decide_eq_true_eq]
  exact ⟨this.1, by omega⟩
theorem plainA_map {α : Type} {f : α → PyData} {n : Nat} : ∀ {l : List α}, (∀ x ∈ l, plainD n (f x) = true) → plainA n (l.map f) = true
  | [], _ => by simp [plainA]
  | x :: l, h => by
    simp only [List.map_cons, plainA, Bool.and_eq_true]
    exact ⟨h x (List.mem_cons_self ..), plainA_map fun y hy => h y (List.mem_cons_of_mem _ hy)⟩
theorem plain_int {n : Nat} {i : Int} : plainD n (.int i) = true := by cases n <;> simp [plainD]
theorem plain_bool {n : Nat} {b : Bool} : plainD n (.bool b) = true := by cases n <;> simp [plainD]
/-! ### which values read as which data -/
mutual
theorem Dp.same {K : PySem.W.Frag} {H H' : Hp} (s : Same H H') : ∀ (d : PyData) {v : V}, Dp K H v d → Dp K H' v d
  | .none, _, h => by cases h; exact .non
  | .bool b, _, h => by cases h; exact .bl b
  | .int i, _, h => by cases h; exact .int i
  | .str x, _, h => by cases h; exact .str x
  | .list ds, _, h => by cases h with | lst h1 h2 => exact .lst (s.seq h1) (DpAll.same s ds h2)
  | .tuple ds, _, h => by cases h with | tup h1 h2 => exact .tup (Same.seqT s h1) (DpAll.same s ds h2)
  | .dict _, _, h => by cases h
theorem DpAll.same {K : PySem.W.Frag} {H H' : Hp} (s : Same H H') : ∀ (ds : List PyData) {vs : List V}, DpAll K H vs ds → DpAll K H' vs ds
  | [], _, h => by cases h; exact .nil
  | d :: ds, _, h => by cases h with | cons h1 h2 => exact .cons (Dp.same s d h1) (DpAll.same s ds h2)
end
/-! ### SumTable: what its other defs promise -/
theorem Same2.refl (l a : Addr) (H : Hp) : Same2 l a H H := fun _ _ _ _ h => h
theorem Same2.trans {l a : Addr} {H H1 H2 : Hp} (x : Same2 l a H H1) (y : Same2 l a H1 H2) : Same2 l a H H2 := fun b o h1 h2 h => y b o h1 h2 (x b o h1 h2 h)
/-! ### the helpers of the laws -/
theorem BoxAt.ne {H : Hp} {b q : Addr} {N : Nat} (x : BoxAt H b N) (h : H q = none) : q ≠ b := fun e => by
  obtain ⟨o, s, n, hb, _⟩ := x.ex
  rw [e, hb] at h
  cases h
/-! ### repr of small things -/
end Ov
set_option maxHeartbeats 4000000
namespace Ov
open PySem PySem.Spec PyProof.Rows L2 RZ
/-! ### how long a repr is -/
mutual
def wt : PyData → Nat
  | .none => 1
  | .bool _ => 1
  | .int _ => 1
  | .str x => 1 + x.length
  | .list xs => 1 + wtA xs
  | .tuple xs => 1 + wtA xs
  | .dict _ => 0
def wtA : List PyData → Nat
  | [] => 0
  | x :: xs => wt x + wtA xs
end
theorem listText_le : ∀ ts : List Str, (listText ts).length ≤ 4 + piled ts
  | [] => by decide
  | t :: r => by
    have h := textFrom_length_pos r 1 (("[" : Str) ++ (if (0 : Nat) > 0 then ", " else "" : String) ++ t) (Nat.succ_pos 0)
    have e : ((("[" : Str) ++ (if (0 : Nat) > 0 then ", " else "" : String) ++ t)).length = 1 + t.length := by
      rw [strLen_append, strLen_append]
      rfl
    have h1 : (listText (t :: r)).length = (textFrom 1 (("[" : Str) ++ (if (0 : Nat) > 0 then ", " else "" : String) ++ t) r).length + 1 := by
      show (textFrom 0 "[" (t :: r) ++ "]").length = _
      rw [strLen_append]
      rfl
    rw [h1, h, e, piled_cons]
    omega
theorem tupleText_le (ts : List Str) : (tupleText ts).length ≤ 4 + piled ts := by
  have e : (tupleText ts).length = 1 + (Str.join ", " ts).length + (if ts.length == 1 then 2 else 1) := by
    unfold tupleText
    rw [strLen_append, strLen_append]
    congr 1
    split <;> rfl
  rw [e]
  cases ts with
  | nil => decide
  | cons t r =>
    have := join_length_add (t :: r) (List.cons_ne_nil _ _)
    split <;> omega
mutual
theorem shown_le : ∀ (d : PyData) (n : Nat), plainD n d = true → d.showable = true → d.shown.length + 2 ≤ 2002 * wt d
  | .none, n, _, _ => by decide
  | .bool b, n, _, _ => by cases b <;> decide
  | .int i, n, _, h => by
    have := int_text_len_1921 (i := i) (of_decide_eq_true h)
    show (Str.ofString (toString i)).length + 2 ≤ 2002 * 1
    omega
  | .str x, n, h, _ => by
    have hx : ∀ c ∈ x.cps.toList, c < 16 ^ 8 := by
      have : PyData.strOk x = true := by cases n <;> simpa [plainD] using h
      intro c hc
      have := Array.all_eq_true_iff_forall_mem.mp this c (by simpa using hc)
      have := of_decide_eq_true this
      omega
    have := PySem.StrLaws.reprText_len x hx
    show (reprText x).length + 2 ≤ 2002 * (1 + x.length)
    omega
  | .list xs, 0, h, _ => by simp [plainD] at h
  | .tuple xs, 0, h, _ => by simp [plainD] at h
  | .list xs, n + 1, h, hs => by
    have := shownA_le xs n (by simpa [plainD] using h) (by simpa [PyData.showable] using hs)
    have h2 := listText_le (PyData.shownAll xs)
    show (listText (PyData.shownAll xs)).length + 2 ≤ 2002 * (1 + wtA xs)
    omega
  | .tuple xs, n + 1, h, hs => by
    have := shownA_le xs n (by simpa [plainD] using h) (by simpa [PyData.showable] using hs)
    have h2 := tupleText_le (PyData.shownAll xs)
    show (tupleText (PyData.shownAll xs)).length + 2 ≤ 2002 * (1 + wtA xs)
    omega
  | .dict _, n, h, _ => by cases n <;> simp [plainD] at h
theorem shownA_le : ∀ (ds : List PyData) (n : Nat), plainA n ds = true → PyData.showableAll ds = true → piled (PyData.shownAll ds) ≤ 2002 * wtA ds
  | [], _, _, _ => by simp [PyData.shownAll, piled, wtA]
  | d :: ds, n, h, hs => by
    simp only [plainA, Bool.and_eq_true] at h
    simp only [PyData.showableAll, Bool.and_eq_true] at hs
    have h1 := shown_le d n h.1 hs.1
    have h2 := shownA_le ds n h.2 hs.2
    rw [PyData.shownAll, piled_cons, wtA, Nat.mul_add]
    omega
end
/-- a repr fits -/
theorem shows {d : PyData} {n : Nat} (h : plainD n d = true) (hn : n ≤ 60) (hs : d.showable = true) (hw : wt d ≤ 8000) : d.depth ≤ 60 ∧ d.shown.length ≤ sizeLine := by
  have h1 := plain_lay d n h
  have h2 := shown_le d n h hs
  refine ⟨by omega, Nat.le_trans (m := 2002 * 8000) (by omega) (by decide)⟩
theorem show_int {i : Int} (h : i.natAbs < 2 ^ 1000) : (PyData.int i).showable = true := by
  simp only [PyData.showable, decide_eq_true_eq]
  exact Nat.lt_of_lt_of_le (PySem.Flt.log2_lt_of (k := 1000) (by decide) h) (by decide)
/-- a number that may lack, as data -/
def oD : Option Nat → PyData
  | none => .none
  | some n => .int (n : Int)
/-! ### common_divisor, least_sums -/
end Ov
set_option maxHeartbeats 4000000
namespace Mi
open PySem PySem.Spec PyProof.Rows L2 RZ Ov
open LamX (CodeO Tabs TabS)
def nodeO : HO → Bool
  | .lst _ => true
  | .dK _ => true
  | .ins _ _ _ => true
  | _ => false
theorem node_tbl {o : HO} (h : nodeO o = true) (ps : Array Value) : o ≠ .tbl ps := fun z => by rw [z] at h; cases h
theorem node_code {o : HO} (h : nodeO o = true) (c : Addr) (q : Str) : o ≠ CodeO c q := fun z => by
  rw [z] at h
  unfold CodeO at h
  cases h
/-- an owned thing: no table, no code object, no error's dict -/
structure NodeO (a : Addr) (o : HO) : Prop where
  tb : ∀ ps, o ≠ .tbl ps
  cd : ∀ q, o ≠ CodeO a q
  xd : ∀ us, o ≠ .xd us
theorem node_of {a : Addr} {o : HO} (h : nodeO o = true) : NodeO a o := ⟨node_tbl h, fun q => node_code h a q, fun us z => by rw [z] at h; cases h⟩
theorem node_code_ne {a : Addr} {φ : Heap → Prop} (h : ∀ h : Heap, φ h → ∀ (o : Obj) (vs : Array Value), h.get? a = some o → o.data = .fields vs → False) : NodeO a (.ext φ) := by
  refine ⟨fun ps z => (by cases z), fun q z => ?_, fun us z => (by cases z)⟩
  have e : φ = fun h => ∃ (oc : Obj) (vs : Array Value) (t : Tok), h.get? a = some oc ∧ oc.data = .fields vs ∧ vs[1]? = some (.str q t) := by
    unfold CodeO at z
    injection z
  have key : ∀ n : Nat, ∃ g : Heap, g.objs.size = n := fun n => by
    induction n with
    | zero => exact ⟨{ objs := #[] }, rfl⟩
    | succ n ih =>
      obtain ⟨g, hg⟩ := ih
      exact ⟨g.push { cls := .none, data := .fields #[] }, by rw [Heap.size_push, hg]⟩
  obtain ⟨g, hg⟩ := key a
  have hget := Heap.get?_push_size g (o := { cls := .none, data := .fields #[.none, .str q 0] }) rfl
  rw [hg] at hget
  have c : φ (g.push { cls := .none, data := .fields #[.none, .str q 0] }) := by
    rw [e]
    exact ⟨_, _, 0, hget, rfl, rfl⟩
  exact h _ c _ _ hget rfl
/-- entries of a dict whose keys are nested tuples: key, its place, value -/
inductive GdX : List (NestedKey × Addr × V) → List (NestedKey × Addr × Value) → Prop
  | nil : GdX [] []
  | cons {q : NestedKey} {a : Addr} {v : V} {u : Value} {us : List (NestedKey × Addr × V)} {xs : List (NestedKey × Addr × Value)} : RelV v u → GdX us xs → GdX ((q, a, v) :: us) ((q, a, u) :: xs)
/-- at a: a dict whose keys are nested tuples -/
def GdO (P : Program) (w : World) (a : Addr) (us : List (NestedKey × Addr × V)) : HO := .ext fun h => ∃ (o : Obj) (es : Array DictEntry) (ep : Nat) (xs : List (NestedKey × Addr × Value)), h.get? a = some o ∧ o.ExactDict ∧ o.data = .dict es ep ∧ es.toList = xs.map (entryOfKey (nestedKind P w)) ∧ (us.map (·.1)).Nodup ∧ GdX us xs ∧ (a == sysModules) = false
theorem node_gd {P : Program} {w : World} {a : Addr} {us : List (NestedKey × Addr × V)} : NodeO a (GdO P w a us) := node_code_ne fun h ⟨o, es, ep, xs, ho, _, hd, _⟩ o' vs ho' hd' => by
  rw [ho] at ho'
  cases ho'
  rw [hd] at hd'
  cases hd'
/-! ### data by value; o: the node is owned by one place, and may be changed there -/
inductive D where
  | non
  | bl (b : Bool)
  | int (i : Int)
  | str (x : Str)
  | tup (xs : List D)
  | lst (o : Bool) (xs : List D)
  | dct (o : Bool) (kvs : List (D × D))
  | ins (o : Bool) (c : String) (fs : List (String × D))
  | set (xs : List D)
  | scr (xs : List D)
  /-- an exception of the class c that was caught -/
  | exn (c : String) (fs : List (String × D))
  /-- a lambda at f, its code object at a; what it caught -/
  | fnc (f a : Addr) (q : Str) (ds : List D) (vs : List V)
  /-- a dict whose keys are nested tuples -/
  | dcg (o : Bool) (kvs : List (D × D))
deriving Inhabited
mutual
/-- a value as a part of a key -/
def nkD : D → Option NestedKey
  | .non => some .none
  | .bl b => some (.num (if b = true then 1 else 0))
  | .int i => some (.num i)
  | .str x => some (.text x)
  | .tup ds => match nkL ds with | some ks => some (.tup ks) | none => none
  | .lst _ _ => none
  | .dct _ _ => none
  | .ins _ _ _ => none
  | .set _ => none
  | .scr _ => none
  | .exn _ _ => none
  | .fnc _ _ _ _ _ => none
  | .dcg _ _ => none
def nkL : List D → Option (List NestedKey)
  | [] => some []
  | d :: ds => match nkD d with | some k => (match nkL ds with | some ks => some (k :: ks) | none => none) | none => none
end
/-- a tuple as a key -/
def gkD : D → Option NestedKey
  | .tup ds => match nkL ds with | some ks => if (NestedKey.tup ks).depth ≤ 8 then some (.tup ks) else none | none => none
  | _ => none
structure Ct where
  K : PySem.W.Frag
  cls : String → Option Addr
  P : Program
  w : World
  T : List (Addr × Str)
def kD : Key → D
  | .inl i => .int i
  | .inr x => .str x
/-- at a: a dict with keys None and ints, of which only the keys count -/
def LfO (P : Program) (w : World) (a : Addr) (ls : List Leaf) : HO := .ext fun h => ∃ kvs : List (Leaf × Value), h.DictOf (leafKind P w) a kvs ∧ kvs.map (·.1) = ls ∧ (a == sysModules) = false
def lfD : Leaf → D
  | .none => .non
  | .num i => .int i
  | .text x => .str x
/-- a set, by its members in some order; a set of texts has a mark in front, a dict's keys another one -/
def SetD (C : Ct) (a : Addr) (ks : List D) (o : HO) : Prop :=
  (∃ xs : List Str, ks = .non :: xs.map D.str ∧ xs.Nodup ∧ o = SetK C.P C.w a (fun k => xs.any fun q => decide (k = Sum.inr q)) xs.length) ∨
  (∃ ns : List Int, ks = ns.map D.int ∧ ns.Nodup ∧ o = SetO C.w a (fun k => ns.any fun q => decide (k = q)) ns.length) ∨
  ∃ ls : List Leaf, ks = .bl true :: ls.map lfD ∧ o = LfO C.P C.w a ls
/-- at a: an exception that was caught, of the class at c, its dict -/
def ExK (a c : Addr) (d : Option Addr) : HO := .ext fun h => ∃ (o : Obj) (xs : Array Value), h.get? a = some o ∧ Zc (.ref c) d o ∧ o.data = .fields xs
/-- the fields that its dict has -/
def XdAt (Z : Hp) : Option Addr → List (Str × V) → Prop
  | some d, us => Z d = some (.xd us)
  | none, us => us = []
theorem XdAt.mono {Z Z' : Hp} (s : Same Z Z') : ∀ {d : Option Addr} {us : List (Str × V)}, XdAt Z d us → XdAt Z' d us
  | some _, _, h => s _ _ h
  | none, _, h => h
mutual
/-- v is d: frozen parts stand in Z, owned nodes in H; F the owned addresses -/
def RdV (C : Ct) (Z H : Hp) : D → V → List Addr → Prop
  | .non, v, F => v = .non ∧ F = []
  | .bl b, v, F => v = .bl b ∧ F = []
  | .int i, v, F => v = .int i ∧ F = []
  | .str x, v, F => v = .str x ∧ F = []
  | .tup ds, v, F => F = [] ∧ ∃ a vs, v = .ref a ∧ SqT C.K Z a vs ∧ RdL C Z H ds vs []
  | .lst o ds, v, F => match o with
    | false => F = [] ∧ ∃ a vs, v = .ref a ∧ Z a = some (.lst vs) ∧ RdL C Z H ds vs []
    | true => ∃ a vs G, v = .ref a ∧ H a = some (.lst vs) ∧ F = a :: G ∧ RdL C Z H ds vs G
  | .dct o kvs, v, F => match o with
    | false => F = [] ∧ ∃ a us, v = .ref a ∧ Z a = some (.dK us) ∧ RdK C Z H kvs us []
    | true => ∃ a us G, v = .ref a ∧ H a = some (.dK us) ∧ F = a :: G ∧ RdK C Z H kvs us G
  | .ins o c fs, v, F => match o with
    | false => F = [] ∧ ∃ a Ca dx us, v = .ref a ∧ C.cls c = some Ca ∧ Z a = some (.ins Ca dx us) ∧ RdF C Z H fs us []
    | true => ∃ a Ca dx us G, v = .ref a ∧ C.cls c = some Ca ∧ H a = some (.ins Ca dx us) ∧ F = a :: G ∧ RdF C Z H fs us G
  | .set ks, v, F => F = [] ∧ ∃ a o, v = .ref a ∧ Z a = some o ∧ SetD C a ks o
  | .scr ds, v, F => F = [] ∧ ∃ a vs, v = .ref a ∧ SqL C.K Z a vs ∧ RdL C Z H ds vs []
  | .exn c fs, v, F => F = [] ∧ ∃ a Ca d us, v = .ref a ∧ C.cls c = some Ca ∧ Z a = some (ExK a Ca d) ∧ XdAt Z d us ∧ RdF C Z H fs us []
  | .fnc f a q ds vs, v, F => F = [] ∧ v = .ref f ∧ Z a = some (CodeO a q) ∧ RdL C Z H ds vs []
  | .dcg o kvs, v, F => match o with
    | false => F = [] ∧ ∃ a us, v = .ref a ∧ Z a = some (GdO C.P C.w a us) ∧ RdG C Z H kvs us []
    | true => ∃ a us G, v = .ref a ∧ H a = some (GdO C.P C.w a us) ∧ F = a :: G ∧ RdG C Z H kvs us G
def RdL (C : Ct) (Z H : Hp) : List D → List V → List Addr → Prop
  | [], vs, F => vs = [] ∧ F = []
  | d :: ds, vs, F => ∃ v r F1 F2, vs = v :: r ∧ F = F1 ++ F2 ∧ RdV C Z H d v F1 ∧ RdL C Z H ds r F2
def RdK (C : Ct) (Z H : Hp) : List (D × D) → List (Key × V) → List Addr → Prop
  | [], us, F => us = [] ∧ F = []
  | (k, d) :: r, us, F => ∃ q v s F1 F2, us = (q, v) :: s ∧ F = F1 ++ F2 ∧ k = kD q ∧ RdV C Z H d v F1 ∧ RdK C Z H r s F2
def RdG (C : Ct) (Z H : Hp) : List (D × D) → List (NestedKey × Addr × V) → List Addr → Prop
  | [], us, F => us = [] ∧ F = []
  | (k, d) :: r, us, F => ∃ q ka v s F1 F2, us = (q, ka, v) :: s ∧ F = F1 ++ F2 ∧ gkD k = some q ∧ RdV C Z H k (.ref ka) [] ∧ RdV C Z H d v F1 ∧ RdG C Z H r s F2
def RdF (C : Ct) (Z H : Hp) : List (String × D) → List (Str × V) → List Addr → Prop
  | [], us, F => us = [] ∧ F = []
  | (k, d) :: r, us, F => ∃ v s F1 F2, us = (PySem.Str.ofString k, v) :: s ∧ F = F1 ++ F2 ∧ RdV C Z H d v F1 ∧ RdF C Z H r s F2
end
mutual
def fz : D → D
  | .non => .non
  | .bl b => .bl b
  | .int i => .int i
  | .str x => .str x
  | .tup ds => .tup (fzL ds)
  | .lst _ ds => .lst false (fzL ds)
  | .dct _ kvs => .dct false (fzK kvs)
  | .ins _ c fs => .ins false c (fzF fs)
  | .set xs => .set xs
  | .scr xs => .scr (fzL xs)
  | .exn c fs => .exn c (fzF fs)
  | .fnc f a q ds vs => .fnc f a q (fzL ds) vs
  | .dcg _ kvs => .dcg false (fzK kvs)
def fzL : List D → List D
  | [] => []
  | d :: ds => fz d :: fzL ds
def fzK : List (D × D) → List (D × D)
  | [] => []
  | (k, d) :: r => (k, fz d) :: fzK r
def fzF : List (String × D) → List (String × D)
  | [] => []
  | (k, d) :: r => (k, fz d) :: fzF r
end
mutual
/-- no owned node within -/
def fzn : D → Bool
  | .non => true
  | .bl _ => true
  | .int _ => true
  | .str _ => true
  | .tup ds => fznL ds
  | .lst o ds => !o && fznL ds
  | .dct o kvs => !o && fznK kvs
  | .ins o _ fs => !o && fznF fs
  | .set _ => true
  | .scr xs => fznL xs
  | .exn _ fs => fznF fs
  | .fnc _ _ _ ds _ => fznL ds
  | .dcg o kvs => !o && fznK kvs
def fznL : List D → Bool
  | [] => true
  | d :: ds => fzn d && fznL ds
def fznK : List (D × D) → Bool
  | [] => true
  | (_, d) :: r => fzn d && fznK r
def fznF : List (String × D) → Bool
  | [] => true
  | (_, d) :: r => fzn d && fznF r
end
section
variable {C : Ct} {Z Z' H H' : Hp}
mutual
theorem RdV.mono (sz : Same Z Z') : ∀ (d : D) (v : V) (F : List Addr), (∀ a ∈ F, H' a = H a) → RdV C Z H d v F → RdV C Z' H' d v F
  | .non, v, F, _, h => by simpa [RdV] using h
  | .bl _, v, F, _, h => by simpa [RdV] using h
  | .int _, v, F, _, h => by simpa [RdV] using h
  | .str _, v, F, _, h => by simpa [RdV] using h
  | .tup ds, v, F, e, h => by
    rw [RdV] at h ⊢
    obtain ⟨hF, a, vs, h1, h2, h3⟩ := h
    exact ⟨hF, a, vs, h1, Same.seqT sz h2, RdL.mono sz ds vs [] (fun a ha => by cases ha) h3⟩
  | .lst false ds, v, F, e, h => by
    rw [RdV] at h ⊢
    obtain ⟨hF, a, vs, h1, h2, h3⟩ := h
    exact ⟨hF, a, vs, h1, sz _ _ h2, RdL.mono sz ds vs [] (fun a ha => by cases ha) h3⟩
  | .lst true ds, v, F, e, h => by
    rw [RdV] at h ⊢
    obtain ⟨a, vs, G, h1, h2, h3, h4⟩ := h
    subst h3
    exact ⟨a, vs, G, h1, by rw [e a (List.mem_cons_self ..)]; exact h2, rfl, RdL.mono sz ds vs G (fun b hb => e b (List.mem_cons_of_mem _ hb)) h4⟩
  | .dct false kvs, v, F, e, h => by
    rw [RdV] at h ⊢
    obtain ⟨hF, a, vs, h1, h2, h3⟩ := h
    exact ⟨hF, a, vs, h1, sz _ _ h2, RdK.mono sz kvs vs [] (fun a ha => by cases ha) h3⟩
  | .dct true kvs, v, F, e, h => by
    rw [RdV] at h ⊢
    obtain ⟨a, vs, G, h1, h2, h3, h4⟩ := h
    subst h3
    exact ⟨a, vs, G, h1, by rw [e a (List.mem_cons_self ..)]; exact h2, rfl, RdK.mono sz kvs vs G (fun b hb => e b (List.mem_cons_of_mem _ hb)) h4⟩
  | .ins false c fs, v, F, e, h => by
    rw [RdV] at h ⊢
    obtain ⟨hF, a, Ca, dx, us, h1, h2, h3, h4⟩ := h
    exact ⟨hF, a, Ca, dx, us, h1, h2, sz _ _ h3, RdF.mono sz fs us [] (fun a ha => by cases ha) h4⟩
  | .ins true c fs, v, F, e, h => by
    rw [RdV] at h ⊢
    obtain ⟨a, Ca, dx, us, G, h1, h2, h3, h4, h5⟩ := h
    subst h4
    exact ⟨a, Ca, dx, us, G, h1, h2, by rw [e a (List.mem_cons_self ..)]; exact h3, rfl, RdF.mono sz fs us G (fun b hb => e b (List.mem_cons_of_mem _ hb)) h5⟩
  | .set ks, v, F, _, h => by
    rw [RdV] at h ⊢
    obtain ⟨hF, a, o, h1, h2, h3⟩ := h
    exact ⟨hF, a, o, h1, sz _ _ h2, h3⟩
  | .scr ds, v, F, e, h => by
    rw [RdV] at h ⊢
    obtain ⟨hF, a, vs, h1, h2, h3⟩ := h
    exact ⟨hF, a, vs, h1, sz.seq h2, RdL.mono sz ds vs [] (fun a ha => by cases ha) h3⟩
  | .exn c fs, v, F, e, h => by
    rw [RdV] at h ⊢
    obtain ⟨hF, a, Ca, d, us, h1, h2, h3, h4, h5⟩ := h
    exact ⟨hF, a, Ca, d, us, h1, h2, sz _ _ h3, h4.mono sz, RdF.mono sz fs us [] (fun a ha => by cases ha) h5⟩
  | .fnc f a q ds vs, v, F, e, h => by
    rw [RdV] at h ⊢
    exact ⟨h.1, h.2.1, sz _ _ h.2.2.1, RdL.mono sz ds vs [] (fun a ha => by cases ha) h.2.2.2⟩
  | .dcg false kvs, v, F, e, h => by
    rw [RdV] at h ⊢
    obtain ⟨hF, a, vs, h1, h2, h3⟩ := h
    exact ⟨hF, a, vs, h1, sz _ _ h2, RdG.mono sz kvs vs [] (fun a ha => by cases ha) h3⟩
  | .dcg true kvs, v, F, e, h => by
    rw [RdV] at h ⊢
    obtain ⟨a, vs, G, h1, h2, h3, h4⟩ := h
    subst h3
    exact ⟨a, vs, G, h1, by rw [e a (List.mem_cons_self ..)]; exact h2, rfl, RdG.mono sz kvs vs G (fun b hb => e b (List.mem_cons_of_mem _ hb)) h4⟩
theorem RdL.mono (sz : Same Z Z') : ∀ (ds : List D) (vs : List V) (F : List Addr), (∀ a ∈ F, H' a = H a) → RdL C Z H ds vs F → RdL C Z' H' ds vs F
  | [], vs, F, _, h => by simpa [RdL] using h
  | d :: ds, vs, F, e, h => by
    rw [RdL] at h ⊢
    obtain ⟨v, r, F1, F2, h1, h2, h3, h4⟩ := h
    subst h2
    exact ⟨v, r, F1, F2, h1, rfl, RdV.mono sz d v F1 (fun a ha => e a (List.mem_append_left _ ha)) h3, RdL.mono sz ds r F2 (fun a ha => e a (List.mem_append_right _ ha)) h4⟩
theorem RdK.mono (sz : Same Z Z') : ∀ (ds : List (D × D)) (vs : List (Key × V)) (F : List Addr), (∀ a ∈ F, H' a = H a) → RdK C Z H ds vs F → RdK C Z' H' ds vs F
  | [], vs, F, _, h => by simpa [RdK] using h
  | (k, d) :: ds, vs, F, e, h => by
    rw [RdK] at h ⊢
    obtain ⟨q, v, r, F1, F2, h1, h2, h3, h4, h5⟩ := h
    subst h2
    exact ⟨q, v, r, F1, F2, h1, rfl, h3, RdV.mono sz d v F1 (fun a ha => e a (List.mem_append_left _ ha)) h4, RdK.mono sz ds r F2 (fun a ha => e a (List.mem_append_right _ ha)) h5⟩
theorem RdG.mono (sz : Same Z Z') : ∀ (ds : List (D × D)) (vs : List (NestedKey × Addr × V)) (F : List Addr), (∀ a ∈ F, H' a = H a) → RdG C Z H ds vs F → RdG C Z' H' ds vs F
  | [], vs, F, _, h => by simpa [RdG] using h
  | (k, d) :: ds, vs, F, e, h => by
    rw [RdG] at h ⊢
    obtain ⟨q, ka, v, r, F1, F2, h1, h2, h3, h6, h4, h5⟩ := h
    subst h2
    exact ⟨q, ka, v, r, F1, F2, h1, rfl, h3, RdV.mono sz k (.ref ka) [] (fun a ha => by cases ha) h6, RdV.mono sz d v F1 (fun a ha => e a (List.mem_append_left _ ha)) h4, RdG.mono sz ds r F2 (fun a ha => e a (List.mem_append_right _ ha)) h5⟩
theorem RdF.mono (sz : Same Z Z') : ∀ (ds : List (String × D)) (vs : List (Str × V)) (F : List Addr), (∀ a ∈ F, H' a = H a) → RdF C Z H ds vs F → RdF C Z' H' ds vs F
  | [], vs, F, _, h => by simpa [RdF] using h
  | (k, d) :: ds, vs, F, e, h => by
    rw [RdF] at h ⊢
    obtain ⟨v, r, F1, F2, h1, h2, h4, h5⟩ := h
    subst h2
    exact ⟨v, r, F1, F2, h1, rfl, RdV.mono sz d v F1 (fun a ha => e a (List.mem_append_left _ ha)) h4, RdF.mono sz ds r F2 (fun a ha => e a (List.mem_append_right _ ha)) h5⟩
end
mutual
theorem RdV.live : ∀ (d : D) (v : V) (F : List Addr), RdV C Z H d v F → ∀ a ∈ F, H a ≠ none
  | .non, v, F, h => by rw [RdV] at h; rw [h.2]; intro a ha; cases ha
  | .bl _, v, F, h => by rw [RdV] at h; rw [h.2]; intro a ha; cases ha
  | .int _, v, F, h => by rw [RdV] at h; rw [h.2]; intro a ha; cases ha
  | .str _, v, F, h => by rw [RdV] at h; rw [h.2]; intro a ha; cases ha
  | .tup ds, v, F, h => by rw [RdV] at h; rw [h.1]; intro a ha; cases ha
  | .lst false ds, v, F, h => by rw [RdV] at h; rw [h.1]; intro a ha; cases ha
  | .dct false ds, v, F, h => by rw [RdV] at h; rw [h.1]; intro a ha; cases ha
  | .ins false c ds, v, F, h => by rw [RdV] at h; rw [h.1]; intro a ha; cases ha
  | .lst true ds, v, F, h => by
    rw [RdV] at h
    obtain ⟨a, vs, G, h1, h2, h3, h4⟩ := h
    subst h3
    intro b hb
    rcases List.mem_cons.mp hb with rfl | hb
    · rw [h2]; simp
    · exact RdL.live ds vs G h4 b hb
  | .dct true ds, v, F, h => by
    rw [RdV] at h
    obtain ⟨a, vs, G, h1, h2, h3, h4⟩ := h
    subst h3
    intro b hb
    rcases List.mem_cons.mp hb with rfl | hb
    · rw [h2]; simp
    · exact RdK.live ds vs G h4 b hb
  | .ins true c ds, v, F, h => by
    rw [RdV] at h
    obtain ⟨a, Ca, dx, vs, G, h1, h2, h3, h4, h5⟩ := h
    subst h4
    intro b hb
    rcases List.mem_cons.mp hb with rfl | hb
    · rw [h3]; simp
    · exact RdF.live ds vs G h5 b hb
  | .set ds, v, F, h => by rw [RdV] at h; rw [h.1]; intro a ha; cases ha
  | .scr ds, v, F, h => by rw [RdV] at h; rw [h.1]; intro a ha; cases ha
  | .exn c fs, v, F, h => by rw [RdV] at h; rw [h.1]; intro a ha; cases ha
  | .fnc f a q ds vs, v, F, h => by rw [RdV] at h; rw [h.1]; intro a ha; cases ha
  | .dcg false ds, v, F, h => by rw [RdV] at h; rw [h.1]; intro a ha; cases ha
  | .dcg true ds, v, F, h => by
    rw [RdV] at h
    obtain ⟨a, vs, G, h1, h2, h3, h4⟩ := h
    subst h3
    intro b hb
    rcases List.mem_cons.mp hb with rfl | hb
    · rw [h2]; simp
    · exact RdG.live ds vs G h4 b hb
theorem RdL.live : ∀ (ds : List D) (vs : List V) (F : List Addr), RdL C Z H ds vs F → ∀ a ∈ F, H a ≠ none
  | [], vs, F, h => by rw [RdL] at h; rw [h.2]; intro a ha; cases ha
  | d :: ds, vs, F, h => by
    rw [RdL] at h
    obtain ⟨v, r, F1, F2, h1, h2, h3, h4⟩ := h
    subst h2
    intro a ha
    rcases List.mem_append.mp ha with ha | ha
    · exact RdV.live d v F1 h3 a ha
    · exact RdL.live ds r F2 h4 a ha
theorem RdK.live : ∀ (ds : List (D × D)) (vs : List (Key × V)) (F : List Addr), RdK C Z H ds vs F → ∀ a ∈ F, H a ≠ none
  | [], vs, F, h => by rw [RdK] at h; rw [h.2]; intro a ha; cases ha
  | (k, d) :: ds, vs, F, h => by
    rw [RdK] at h
    obtain ⟨q, v, r, F1, F2, h1, h2, h3, h4, h5⟩ := h
    subst h2
    intro a ha
    rcases List.mem_append.mp ha with ha | ha
    · exact RdV.live d v F1 h4 a ha
    · exact RdK.live ds r F2 h5 a ha
theorem RdG.live : ∀ (ds : List (D × D)) (vs : List (NestedKey × Addr × V)) (F : List Addr), RdG C Z H ds vs F → ∀ a ∈ F, H a ≠ none
  | [], vs, F, h => by rw [RdG] at h; rw [h.2]; intro a ha; cases ha
  | (k, d) :: ds, vs, F, h => by
    rw [RdG] at h
    obtain ⟨q, ka, v, r, F1, F2, h1, h2, h3, h6, h4, h5⟩ := h
    subst h2
    intro a ha
    rcases List.mem_append.mp ha with ha | ha
    · exact RdV.live d v F1 h4 a ha
    · exact RdG.live ds r F2 h5 a ha
theorem RdF.live : ∀ (ds : List (String × D)) (vs : List (Str × V)) (F : List Addr), RdF C Z H ds vs F → ∀ a ∈ F, H a ≠ none
  | [], vs, F, h => by rw [RdF] at h; rw [h.2]; intro a ha; cases ha
  | (k, d) :: ds, vs, F, h => by
    rw [RdF] at h
    obtain ⟨v, r, F1, F2, h1, h2, h4, h5⟩ := h
    subst h2
    intro a ha
    rcases List.mem_append.mp ha with ha | ha
    · exact RdV.live d v F1 h4 a ha
    · exact RdF.live ds r F2 h5 a ha
end
mutual
theorem RdV.nk : ∀ (d : D) (v : V) (F : List Addr), RdV C Z H d v F → ∀ a ∈ F, ∃ o, H a = some o ∧ NodeO a o
  | .non, v, F, h => by rw [RdV] at h; rw [h.2]; intro a ha; cases ha
  | .bl _, v, F, h => by rw [RdV] at h; rw [h.2]; intro a ha; cases ha
  | .int _, v, F, h => by rw [RdV] at h; rw [h.2]; intro a ha; cases ha
  | .str _, v, F, h => by rw [RdV] at h; rw [h.2]; intro a ha; cases ha
  | .tup ds, v, F, h => by rw [RdV] at h; rw [h.1]; intro a ha; cases ha
  | .lst false ds, v, F, h => by rw [RdV] at h; rw [h.1]; intro a ha; cases ha
  | .dct false ds, v, F, h => by rw [RdV] at h; rw [h.1]; intro a ha; cases ha
  | .ins false c ds, v, F, h => by rw [RdV] at h; rw [h.1]; intro a ha; cases ha
  | .lst true ds, v, F, h => by
    rw [RdV] at h
    obtain ⟨a, vs, G, h1, h2, h3, h4⟩ := h
    subst h3
    intro b hb
    rcases List.mem_cons.mp hb with rfl | hb
    · exact ⟨_, h2, node_of rfl⟩
    · exact RdL.nk ds vs G h4 b hb
  | .dct true ds, v, F, h => by
    rw [RdV] at h
    obtain ⟨a, vs, G, h1, h2, h3, h4⟩ := h
    subst h3
    intro b hb
    rcases List.mem_cons.mp hb with rfl | hb
    · exact ⟨_, h2, node_of rfl⟩
    · exact RdK.nk ds vs G h4 b hb
  | .ins true c ds, v, F, h => by
    rw [RdV] at h
    obtain ⟨a, Ca, dx, vs, G, h1, h2, h3, h4, h5⟩ := h
    subst h4
    intro b hb
    rcases List.mem_cons.mp hb with rfl | hb
    · exact ⟨_, h3, node_of rfl⟩
    · exact RdF.nk ds vs G h5 b hb
  | .set ds, v, F, h => by rw [RdV] at h; rw [h.1]; intro a ha; cases ha
  | .scr ds, v, F, h => by rw [RdV] at h; rw [h.1]; intro a ha; cases ha
  | .exn c fs, v, F, h => by rw [RdV] at h; rw [h.1]; intro a ha; cases ha
  | .fnc f a q ds vs, v, F, h => by rw [RdV] at h; rw [h.1]; intro a ha; cases ha
  | .dcg false ds, v, F, h => by rw [RdV] at h; rw [h.1]; intro a ha; cases ha
  | .dcg true ds, v, F, h => by
    rw [RdV] at h
    obtain ⟨a, vs, G, h1, h2, h3, h4⟩ := h
    subst h3
    intro b hb
    rcases List.mem_cons.mp hb with rfl | hb
    · exact ⟨_, h2, node_gd⟩
    · exact RdG.nk ds vs G h4 b hb
theorem RdL.nk : ∀ (ds : List D) (vs : List V) (F : List Addr), RdL C Z H ds vs F → ∀ a ∈ F, ∃ o, H a = some o ∧ NodeO a o
  | [], vs, F, h => by rw [RdL] at h; rw [h.2]; intro a ha; cases ha
  | d :: ds, vs, F, h => by
    rw [RdL] at h
    obtain ⟨v, r, F1, F2, h1, h2, h3, h4⟩ := h
    subst h2
    intro a ha
    rcases List.mem_append.mp ha with ha | ha
    · exact RdV.nk d v F1 h3 a ha
    · exact RdL.nk ds r F2 h4 a ha
theorem RdK.nk : ∀ (ds : List (D × D)) (vs : List (Key × V)) (F : List Addr), RdK C Z H ds vs F → ∀ a ∈ F, ∃ o, H a = some o ∧ NodeO a o
  | [], vs, F, h => by rw [RdK] at h; rw [h.2]; intro a ha; cases ha
  | (k, d) :: ds, vs, F, h => by
    rw [RdK] at h
    obtain ⟨q, v, r, F1, F2, h1, h2, h3, h4, h5⟩ := h
    subst h2
    intro a ha
    rcases List.mem_append.mp ha with ha | ha
    · exact RdV.nk d v F1 h4 a ha
    · exact RdK.nk ds r F2 h5 a ha
theorem RdG.nk : ∀ (ds : List (D × D)) (vs : List (NestedKey × Addr × V)) (F : List Addr), RdG C Z H ds vs F → ∀ a ∈ F, ∃ o, H a = some o ∧ NodeO a o
  | [], vs, F, h => by rw [RdG] at h; rw [h.2]; intro a ha; cases ha
  | (k, d) :: ds, vs, F, h => by
    rw [RdG] at h
    obtain ⟨q, ka, v, r, F1, F2, h1, h2, h3, h6, h4, h5⟩ := h
    subst h2
    intro a ha
    rcases List.mem_append.mp ha with ha | ha
    · exact RdV.nk d v F1 h4 a ha
    · exact RdG.nk ds r F2 h5 a ha
theorem RdF.nk : ∀ (ds : List (String × D)) (vs : List (Str × V)) (F : List Addr), RdF C Z H ds vs F → ∀ a ∈ F, ∃ o, H a = some o ∧ NodeO a o
  | [], vs, F, h => by rw [RdF] at h; rw [h.2]; intro a ha; cases ha
  | (k, d) :: ds, vs, F, h => by
    rw [RdF] at h
    obtain ⟨v, r, F1, F2, h1, h2, h4, h5⟩ := h
    subst h2
    intro a ha
    rcases List.mem_append.mp ha with ha | ha
    · exact RdV.nk d v F1 h4 a ha
    · exact RdF.nk ds r F2 h5 a ha
end
/-- Z with what H holds at W -/
def Zw (Z H : Hp) (W : List Addr) : Hp := fun a => if a ∈ W then H a else Z a
theorem Zw.same {W : List Addr} (h : ∀ a ∈ W, Z a = none) : Same Z (Zw Z H W) := fun a o e => by
  unfold Zw
  by_cases hw : a ∈ W
  · rw [h a hw] at e; cases e
  · rw [if_neg hw]; exact e
theorem Zw.at {W : List Addr} {a : Addr} (h : a ∈ W) : Zw Z H W a = H a := if_pos h
mutual
theorem RdV.freeze {W : List Addr} (hz : ∀ a ∈ W, Z a = none) : ∀ (d : D) (v : V) (F : List Addr), (∀ a ∈ F, a ∈ W) → RdV C Z H d v F → RdV C (Zw Z H W) H' (fz d) v []
  | .non, v, F, _, h => by simpa [RdV, fz] using h.1
  | .bl _, v, F, _, h => by simpa [RdV, fz] using h.1
  | .int _, v, F, _, h => by simpa [RdV, fz] using h.1
  | .str _, v, F, _, h => by simpa [RdV, fz] using h.1
  | .tup ds, v, F, e, h => by
    rw [RdV] at h
    rw [fz, RdV]
    obtain ⟨hF, a, vs, h1, h2, h3⟩ := h
    exact ⟨rfl, a, vs, h1, Same.seqT (Zw.same hz) h2, RdL.freeze hz ds vs [] (fun a ha => by cases ha) h3⟩
  | .lst false ds, v, F, e, h => by
    rw [RdV] at h
    rw [fz, RdV]
    obtain ⟨hF, a, vs, h1, h2, h3⟩ := h
    exact ⟨rfl, a, vs, h1, (Zw.same hz) _ _ h2, RdL.freeze hz ds vs [] (fun a ha => by cases ha) h3⟩
  | .lst true ds, v, F, e, h => by
    rw [RdV] at h
    rw [fz, RdV]
    obtain ⟨a, vs, G, h1, h2, h3, h4⟩ := h
    subst h3
    exact ⟨rfl, a, vs, h1, by rw [Zw.at (e a (List.mem_cons_self ..))]; exact h2, RdL.freeze hz ds vs G (fun b hb => e b (List.mem_cons_of_mem _ hb)) h4⟩
  | .dct false kvs, v, F, e, h => by
    rw [RdV] at h
    rw [fz, RdV]
    obtain ⟨hF, a, vs, h1, h2, h3⟩ := h
    exact ⟨rfl, a, vs, h1, (Zw.same hz) _ _ h2, RdK.freeze hz kvs vs [] (fun a ha => by cases ha) h3⟩
  | .dct true kvs, v, F, e, h => by
    rw [RdV] at h
    rw [fz, RdV]
    obtain ⟨a, vs, G, h1, h2, h3, h4⟩ := h
    subst h3
    exact ⟨rfl, a, vs, h1, by rw [Zw.at (e a (List.mem_cons_self ..))]; exact h2, RdK.freeze hz kvs vs G (fun b hb => e b (List.mem_cons_of_mem _ hb)) h4⟩
  | .ins false c fs, v, F, e, h => by
    rw [RdV] at h
    rw [fz, RdV]
    obtain ⟨hF, a, Ca, dx, us, h1, h2, h3, h4⟩ := h
    exact ⟨rfl, a, Ca, dx, us, h1, h2, (Zw.same hz) _ _ h3, RdF.freeze hz fs us [] (fun a ha => by cases ha) h4⟩
  | .ins true c fs, v, F, e, h => by
    rw [RdV] at h
    rw [fz, RdV]
    obtain ⟨a, Ca, dx, us, G, h1, h2, h3, h4, h5⟩ := h
    subst h4
    exact ⟨rfl, a, Ca, dx, us, h1, h2, by rw [Zw.at (e a (List.mem_cons_self ..))]; exact h3, RdF.freeze hz fs us G (fun b hb => e b (List.mem_cons_of_mem _ hb)) h5⟩
  | .set ks, v, F, e, h => by
    rw [RdV] at h
    rw [fz, RdV]
    obtain ⟨hF, a, o, h1, h2, h3⟩ := h
    exact ⟨rfl, a, o, h1, (Zw.same hz) _ _ h2, h3⟩
  | .scr ds, v, F, e, h => by
    rw [RdV] at h
    rw [fz, RdV]
    obtain ⟨hF, a, vs, h1, h2, h3⟩ := h
    exact ⟨rfl, a, vs, h1, (Zw.same hz).seq h2, RdL.freeze hz ds vs [] (fun a ha => by cases ha) h3⟩
  | .exn c fs, v, F, e, h => by
    rw [RdV] at h
    rw [fz, RdV]
    obtain ⟨hF, a, Ca, d, us, h1, h2, h3, h4, h5⟩ := h
    exact ⟨rfl, a, Ca, d, us, h1, h2, (Zw.same hz) _ _ h3, h4.mono (Zw.same hz), RdF.freeze hz fs us [] (fun a ha => by cases ha) h5⟩
  | .fnc f a q ds vs, v, F, e, h => by
    rw [RdV] at h
    rw [fz, RdV]
    exact ⟨rfl, h.2.1, (Zw.same hz) _ _ h.2.2.1, RdL.freeze hz ds vs [] (fun a ha => by cases ha) h.2.2.2⟩
  | .dcg false kvs, v, F, e, h => by
    rw [RdV] at h
    rw [fz, RdV]
    obtain ⟨hF, a, vs, h1, h2, h3⟩ := h
    exact ⟨rfl, a, vs, h1, (Zw.same hz) _ _ h2, RdG.freeze hz kvs vs [] (fun a ha => by cases ha) h3⟩
  | .dcg true kvs, v, F, e, h => by
    rw [RdV] at h
    rw [fz, RdV]
    obtain ⟨a, vs, G, h1, h2, h3, h4⟩ := h
    subst h3
    exact ⟨rfl, a, vs, h1, by rw [Zw.at (e a (List.mem_cons_self ..))]; exact h2, RdG.freeze hz kvs vs G (fun b hb => e b (List.mem_cons_of_mem _ hb)) h4⟩
theorem RdL.freeze {W : List Addr} (hz : ∀ a ∈ W, Z a = none) : ∀ (ds : List D) (vs : List V) (F : List Addr), (∀ a ∈ F, a ∈ W) → RdL C Z H ds vs F → RdL C (Zw Z H W) H' (fzL ds) vs []
  | [], vs, F, _, h => by simpa [RdL, fzL] using h.1
  | d :: ds, vs, F, e, h => by
    rw [RdL] at h
    rw [fzL, RdL]
    obtain ⟨v, r, F1, F2, h1, h2, h3, h4⟩ := h
    subst h2
    exact ⟨v, r, [], [], h1, rfl, RdV.freeze hz d v F1 (fun a ha => e a (List.mem_append_left _ ha)) h3, RdL.freeze hz ds r F2 (fun a ha => e a (List.mem_append_right _ ha)) h4⟩
theorem RdK.freeze {W : List Addr} (hz : ∀ a ∈ W, Z a = none) : ∀ (ds : List (D × D)) (vs : List (Key × V)) (F : List Addr), (∀ a ∈ F, a ∈ W) → RdK C Z H ds vs F → RdK C (Zw Z H W) H' (fzK ds) vs []
  | [], vs, F, _, h => by simpa [RdK, fzK] using h.1
  | (k, d) :: ds, vs, F, e, h => by
    rw [RdK] at h
    rw [fzK, RdK]
    obtain ⟨q, v, r, F1, F2, h1, h2, h3, h4, h5⟩ := h
    subst h2
    exact ⟨q, v, r, [], [], h1, rfl, h3, RdV.freeze hz d v F1 (fun a ha => e a (List.mem_append_left _ ha)) h4, RdK.freeze hz ds r F2 (fun a ha => e a (List.mem_append_right _ ha)) h5⟩
theorem RdG.freeze {W : List Addr} (hz : ∀ a ∈ W, Z a = none) : ∀ (ds : List (D × D)) (vs : List (NestedKey × Addr × V)) (F : List Addr), (∀ a ∈ F, a ∈ W) → RdG C Z H ds vs F → RdG C (Zw Z H W) H' (fzK ds) vs []
  | [], vs, F, _, h => by simpa [RdG, fzK] using h.1
  | (k, d) :: ds, vs, F, e, h => by
    rw [RdG] at h
    rw [fzK, RdG]
    obtain ⟨q, ka, v, r, F1, F2, h1, h2, h3, h6, h4, h5⟩ := h
    subst h2
    exact ⟨q, ka, v, r, [], [], h1, rfl, h3, RdV.mono (Zw.same hz) k (.ref ka) [] (fun a ha => by cases ha) h6, RdV.freeze hz d v F1 (fun a ha => e a (List.mem_append_left _ ha)) h4, RdG.freeze hz ds r F2 (fun a ha => e a (List.mem_append_right _ ha)) h5⟩
theorem RdF.freeze {W : List Addr} (hz : ∀ a ∈ W, Z a = none) : ∀ (ds : List (String × D)) (vs : List (Str × V)) (F : List Addr), (∀ a ∈ F, a ∈ W) → RdF C Z H ds vs F → RdF C (Zw Z H W) H' (fzF ds) vs []
  | [], vs, F, _, h => by simpa [RdF, fzF] using h.1
  | (k, d) :: ds, vs, F, e, h => by
    rw [RdF] at h
    rw [fzF, RdF]
    obtain ⟨v, r, F1, F2, h1, h2, h4, h5⟩ := h
    subst h2
    exact ⟨v, r, [], [], h1, rfl, RdV.freeze hz d v F1 (fun a ha => e a (List.mem_append_left _ ha)) h4, RdF.freeze hz ds r F2 (fun a ha => e a (List.mem_append_right _ ha)) h5⟩
end
mutual
theorem RdV.fzn : ∀ (d : D) (v : V) (F : List Addr), Mi.fzn d = true → RdV C Z H d v F → F = []
  | .non, v, F, _, h => by rw [RdV] at h; exact h.2
  | .bl _, v, F, _, h => by rw [RdV] at h; exact h.2
  | .int _, v, F, _, h => by rw [RdV] at h; exact h.2
  | .str _, v, F, _, h => by rw [RdV] at h; exact h.2
  | .tup ds, v, F, _, h => by rw [RdV] at h; exact h.1
  | .lst false ds, v, F, _, h => by rw [RdV] at h; exact h.1
  | .dct false ds, v, F, _, h => by rw [RdV] at h; exact h.1
  | .ins false c ds, v, F, _, h => by rw [RdV] at h; exact h.1
  | .lst true ds, v, F, e, h => by simp [Mi.fzn] at e
  | .dct true ds, v, F, e, h => by simp [Mi.fzn] at e
  | .ins true c ds, v, F, e, h => by simp [Mi.fzn] at e
  | .set ds, v, F, _, h => by rw [RdV] at h; exact h.1
  | .scr ds, v, F, _, h => by rw [RdV] at h; exact h.1
  | .exn c fs, v, F, _, h => by rw [RdV] at h; exact h.1
  | .fnc f a q ds vs, v, F, _, h => by rw [RdV] at h; exact h.1
  | .dcg false ds, v, F, _, h => by rw [RdV] at h; exact h.1
  | .dcg true ds, v, F, e, h => by simp [Mi.fzn] at e
end
theorem RdL.fznL : ∀ (ds : List D) (vs : List V) (F : List Addr), Mi.fznL ds = true → RdL C Z H ds vs F → F = []
  | [], vs, F, _, h => by rw [RdL] at h; exact h.2
  | d :: ds, vs, F, e, h => by
    rw [RdL] at h
    rw [Mi.fznL, Bool.and_eq_true] at e
    obtain ⟨v, r, F1, F2, h1, h2, h3, h4⟩ := h
    rw [h2, RdV.fzn d v F1 e.1 h3, RdL.fznL ds r F2 e.2 h4]
    rfl
end
/-! ### the two heaps and the owned places; Ω: the tables of code objects that lambdas need -/
theorem tabs_ext {Ω : List (Addr × Str)} {H H' : Hp} {F : List Addr} (t : Tabs Ω H) (k : ∀ a ∈ F, ∀ o, H a = some o → NodeO a o) (e : ∀ b o, H b = some o → b ∉ F → H' b = some o) : Tabs Ω H' := fun p hp => by
  obtain ⟨ps, h1, h2, h3⟩ := t p hp
  refine ⟨ps, e _ _ h1 fun z => (k _ z _ h1).tb ps rfl, h2, fun pos cv hc => ?_⟩
  obtain ⟨c, e1, e2⟩ := h3 pos cv hc
  exact ⟨c, e1, e _ _ e2 fun z => (k _ z _ e2).cd _ rfl⟩
structure Ok (Ω : List (Addr × Str)) (Z H : Hp) (F : List Addr) : Prop where
  zh : Same Z H
  zf : ∀ a ∈ F, Z a = none
  nd : F.Nodup
  live : ∀ a ∈ F, H a ≠ none
  kd : ∀ a ∈ F, ∀ o, H a = some o → NodeO a o
  zt : ∀ a ps, Z a ≠ some (.tbl ps)
  tb : Tabs Ω H
/-- nothing stands at a, or a thing that is never owned -/
def NT (H : Hp) (a : Addr) : Prop := ∀ o, H a = some o → ¬ NodeO a o
theorem nt_none {H : Hp} {a : Addr} (h : H a = none) : NT H a := fun o e => by rw [h] at e; cases e
theorem NT.no {H : Hp} {a : Addr} {o : HO} (h : NT H a) (e : H a = some o) (n : NodeO a o) : False := h o e n
structure Ext (Ω : List (Addr × Str)) (Z H : Hp) (F : List Addr) (Z' H' : Hp) (F' : List Addr) : Prop where
  zz : Same Z Z'
  ok : Ok Ω Z' H' F'
  keep0 : ∀ b o, H b = some o → b ∉ F → (Ω = [] ∨ ∀ ps, o ≠ .tbl ps) → H' b = some o
  fr : ∀ a ∈ F', a ∈ F ∨ NT H a
  zr : ∀ a, Z' a ≠ none → Z a ≠ none ∨ a ∈ F ∨ NT H a
section
variable {Ω : List (Addr × Str)} {Z H Z' H' Z1 H1 Z2 H2 : Hp} {F F' F1 F2 G : List Addr}
theorem Ok.sub (h : Ok Ω Z H F) (nd : G.Nodup) (s : ∀ a ∈ G, a ∈ F) : Ok Ω Z H G := ⟨h.zh, fun a ha => h.zf a (s a ha), nd, fun a ha => h.live a (s a ha), fun a ha => h.kd a (s a ha), h.zt, h.tb⟩
theorem Ext.keep (x : Ext Ω Z H F Z' H' F') (b : Addr) (o : HO) (e : H b = some o) (n : b ∉ F) (nt : ∀ ps, o ≠ .tbl ps) : H' b = some o := x.keep0 b o e n (.inr nt)
theorem Ext.refl (h : Ok Ω Z H F) : Ext Ω Z H F Z H F := ⟨Same.refl _, h, fun _ _ e _ _ => e, fun _ h => .inl h, fun _ h => .inl h⟩
theorem Ext.sub (x : Ext Ω Z H F Z' H' F') (nd : G.Nodup) (s : ∀ a ∈ G, a ∈ F') : Ext Ω Z H F Z' H' G :=
  ⟨x.zz, x.ok.sub nd s, x.keep0, fun a ha => x.fr a (s a ha), x.zr⟩
theorem Ext.left (x : Ext Ω Z H F Z' H' F') (s : ∀ a ∈ F, a ∈ G) : Ext Ω Z H G Z' H' F' :=
  ⟨x.zz, x.ok, fun b o e n => x.keep0 b o e fun z => n (s b z), fun a ha => (x.fr a ha).imp (s a) id, fun a h => (x.zr a h).imp id fun z => z.imp (s a) id⟩
theorem Ext.trans (x : Ext Ω Z H F Z1 H1 F1) (y : Ext Ω Z1 H1 F1 Z2 H2 F2) : Ext Ω Z H F Z2 H2 F2 := by
  have back : ∀ a, NT H1 a → a ∈ F ∨ NT H a := fun a h => by
    by_cases hf : a ∈ F
    · exact .inl hf
    · exact .inr fun o e n => h o (x.keep a o e hf n.tb) n
  refine ⟨x.zz.trans y.zz, y.ok, fun b o e n nt => ?_, fun a ha => ?_, fun a h => ?_⟩
  · have h1 := x.keep0 b o e n nt
    by_cases q : b ∈ F1
    · exfalso
      rcases x.fr b q with z | z
      · exact n z
      · exact z o e (x.ok.kd b q o h1)
    · exact y.keep0 b o h1 q nt
  · rcases y.fr a ha with z | z
    · exact x.fr a z
    · exact back a z
  · rcases y.zr a h with z | z | z
    · exact x.zr a z
    · exact .inr (x.fr a z)
    · exact .inr (back a z)
/-- what is held besides stays held -/
theorem Ext.frame (x : Ext Ω Z H F Z' H' F') (o : Ok Ω Z H (F ++ G)) : Ext Ω Z H (F ++ G) Z' H' (F' ++ G) := by
  have hd : ∀ a ∈ G, a ∉ F := fun a ha hf => (List.nodup_append.mp o.nd).2.2 a hf a ha rfl
  have hg : ∀ a ∈ G, a ∉ F' := fun a ha hf => by
    rcases x.fr a hf with z | z
    · exact hd a ha z
    · cases e : H a with
      | none => exact o.live a (List.mem_append_right _ ha) e
      | some u => exact z.no e (o.kd a (List.mem_append_right _ ha) u e)
  have hk : ∀ a ∈ G, ∃ u, H a = some u ∧ H' a = some u ∧ NodeO a u := fun a ha => by
    cases e : H a with
    | none => exact absurd e (o.live a (List.mem_append_right _ ha))
    | some u =>
      have hn := o.kd a (List.mem_append_right _ ha) u e
      exact ⟨u, rfl, x.keep a u e (hd a ha) hn.tb, hn⟩
  refine ⟨x.zz, ⟨x.ok.zh, fun a ha => ?_, ?_, fun a ha => ?_, fun a ha => ?_, x.ok.zt, x.ok.tb⟩, fun b u e n => x.keep0 b u e fun z => n (List.mem_append_left _ z), fun a ha => ?_, fun a h => ?_⟩
  · rcases List.mem_append.mp ha with ha | ha
    · exact x.ok.zf a ha
    · cases e : Z' a with
      | none => rfl
      | some u =>
        rcases x.zr a (by rw [e]; simp) with z | z | z
        · exact absurd (o.zf a (List.mem_append_right _ ha)) z
        · exact absurd z (hd a ha)
        · obtain ⟨u', e2, _, hn⟩ := hk a ha
          exact (z.no e2 hn).elim
  · refine List.nodup_append.mpr ⟨x.ok.nd, (List.nodup_append.mp o.nd).2.1, fun a ha b hb e => ?_⟩
    subst e
    exact hg a hb ha
  · rcases List.mem_append.mp ha with ha | ha
    · exact x.ok.live a ha
    · obtain ⟨u, _, h, _⟩ := hk a ha
      rw [h]; simp
  · rcases List.mem_append.mp ha with ha | ha
    · exact x.ok.kd a ha
    · obtain ⟨u, _, h, hn⟩ := hk a ha
      intro o' ho'
      rw [h] at ho'
      cases ho'
      exact hn
  · rcases List.mem_append.mp ha with ha | ha
    · exact (x.fr a ha).imp (List.mem_append_left _) id
    · exact .inl (List.mem_append_right _ ha)
  · exact (x.zr a h).imp id fun z => z.imp (List.mem_append_left _) id
/-- .. and reads as it did -/
theorem Ext.held {C : Ct} {d : D} {v : V} (x : Ext Ω Z H F Z' H' F') (hd : ∀ a ∈ G, a ∉ F) (r : RdV C Z H d v G) : RdV C Z' H' d v G := by
  refine RdV.mono x.zz d v G (fun a ha => ?_) r
  obtain ⟨o, e, hn⟩ := RdV.nk d v G r a ha
  rw [x.keep a o e (hd a ha) hn.tb, e]
theorem node_setO {w : World} {a : Addr} {S : Int → Bool} {n : Nat} : NodeO a (SetO w a S n) := node_code_ne fun h ⟨o, es, ep, t, ho, _, hd, _⟩ o' vs ho' hd' => by
  rw [ho] at ho'
  cases ho'
  rw [hd] at hd'
  cases hd'
theorem node_setK {P : Program} {w : World} {a : Addr} {S : Key → Bool} {n : Nat} : NodeO a (SetK P w a S n) := node_code_ne fun h ⟨o, es, ep, t, ho, _, hd, _⟩ o' vs ho' hd' => by
  rw [ho] at ho'
  cases ho'
  rw [hd] at hd'
  cases hd'
theorem Ext.new {p : Addr} {o : HO} (h : Ok Ω Z H F) (hp : H p = none) (hn : NodeO p o := by exact node_of rfl) : Ext Ω Z H F Z (upd H p o) (p :: F) := by
  have hz : Z p = none := h.zh.free hp
  refine ⟨Same.refl _, ⟨fun a u e => ?_, fun a ha => ?_, ?_, fun a ha => ?_, fun a ha u e => ?_, h.zt, h.tb.ext (same_new hp)⟩, fun b u e n _ => ?_, fun a ha => ?_, fun a h => .inl h⟩
  · rw [upd_ne (ne_of_none e hz)]; exact h.zh _ _ e
  · rcases List.mem_cons.mp ha with rfl | ha
    · exact hz
    · exact h.zf a ha
  · refine List.nodup_cons.mpr ⟨fun z => h.live p z hp, h.nd⟩
  · rcases List.mem_cons.mp ha with rfl | ha
    · rw [upd_same]; simp
    · rw [upd_ne (fun z : a = p => h.live a ha (by rw [z]; exact hp))]; exact h.live a ha
  · rcases List.mem_cons.mp ha with rfl | ha
    · rw [upd_same] at e; cases e; exact hn
    · rw [upd_ne (fun z : a = p => h.live a ha (by rw [z]; exact hp))] at e; exact h.kd a ha u e
  · rw [upd_ne (ne_of_none e hp)]; exact e
  · rcases List.mem_cons.mp ha with rfl | ha
    · exact .inr (nt_none hp)
    · exact .inl ha
theorem Ext.newZ {p : Addr} {o : HO} (h : Ok Ω Z H F) (hp : H p = none) (ho : ∀ ps, o ≠ .tbl ps := by intro ps z; cases z) : Ext Ω Z H F (upd Z p o) (upd H p o) F := by
  have hz : Z p = none := h.zh.free hp
  refine ⟨same_new hz, ⟨fun a u e => ?_, fun a ha => ?_, h.nd, fun a ha => ?_, fun a ha u e => ?_, fun a ps e => ?_, h.tb.ext (same_new hp)⟩, fun b u e n _ => ?_, fun a ha => .inl ha, fun a e => ?_⟩
  · by_cases q : a = p
    · subst q; rw [upd_same] at e ⊢; exact e
    · rw [upd_ne q] at e ⊢; exact h.zh _ _ e
  · rw [upd_ne (fun z : a = p => h.live a ha (by rw [z]; exact hp))]; exact h.zf a ha
  · rw [upd_ne (fun z : a = p => h.live a ha (by rw [z]; exact hp))]; exact h.live a ha
  · rw [upd_ne (fun z : a = p => h.live a ha (by rw [z]; exact hp))] at e; exact h.kd a ha u e
  · by_cases q : a = p
    · subst q; rw [upd_same] at e; cases e; exact ho ps rfl
    · rw [upd_ne q] at e; exact h.zt a ps e
  · rw [upd_ne (ne_of_none e hp)]; exact e
  · by_cases q : a = p
    · subst q; exact .inr (.inr (nt_none hp))
    · rw [upd_ne q] at e; exact .inl e
/-- a new thing that nobody looks at -/
theorem Ext.junk {p : Addr} {o : HO} (h : Ok Ω Z H F) (hp : H p = none) : Ext Ω Z H F Z (upd H p o) F := by
  have hz : Z p = none := h.zh.free hp
  refine ⟨Same.refl _, ⟨fun a u e => ?_, h.zf, h.nd, fun a ha => ?_, fun a ha u e => ?_, h.zt, h.tb.ext (same_new hp)⟩, fun b u e n _ => ?_, fun a ha => .inl ha, fun a h => .inl h⟩
  · rw [upd_ne (ne_of_none e hz)]; exact h.zh _ _ e
  · rw [upd_ne (fun z : a = p => h.live a ha (by rw [z]; exact hp))]; exact h.live a ha
  · rw [upd_ne (fun z : a = p => h.live a ha (by rw [z]; exact hp))] at e; exact h.kd a ha u e
  · rw [upd_ne (ne_of_none e hp)]; exact e
theorem Ext.mut {a : Addr} {o : HO} (h : Ok Ω Z H F) (ha : a ∈ F) (hn : NodeO a o := by exact node_of rfl) : Ext Ω Z H F Z (upd H a o) F := by
  have keep : ∀ b u, H b = some u → b ∉ F → upd H a o b = some u := fun b u e n => by
    rw [upd_ne (fun z : b = a => n (by rw [z]; exact ha))]; exact e
  refine ⟨Same.refl _, ⟨fun b u e => ?_, h.zf, h.nd, fun b hb => ?_, fun b hb u e => ?_, h.zt, tabs_ext h.tb h.kd keep⟩, fun b u e n _ => keep b u e n, fun b hb => .inl hb, fun b e => .inl e⟩
  · rw [upd_ne (fun z => by subst z; rw [h.zf _ ha] at e; cases e)]; exact h.zh _ _ e
  · by_cases q : b = a
    · subst q; rw [upd_same]; simp
    · rw [upd_ne q]; exact h.live b hb
  · by_cases q : b = a
    · subst q; rw [upd_same] at e; cases e; exact hn
    · rw [upd_ne q] at e; exact h.kd b hb u e
theorem Ext.freeze (h : Ok Ω Z H (G ++ F)) : Ext Ω Z H (G ++ F) (Zw Z H G) H F := by
  have hd : ∀ a ∈ F, a ∉ G := fun a ha hg => (List.nodup_append.mp h.nd).2.2 a hg a ha rfl
  have hz : ∀ a ∈ G, Z a = none := fun a ha => h.zf a (List.mem_append_left _ ha)
  refine ⟨Zw.same hz, ⟨fun a o e => ?_, fun a ha => ?_, (List.nodup_append.mp h.nd).2.1, fun a ha => h.live a (List.mem_append_right _ ha), fun a ha => h.kd a (List.mem_append_right _ ha), fun a ps e => ?_, h.tb⟩, fun b o e _ _ => e,
    fun a ha => .inl (List.mem_append_right _ ha), fun a e => ?_⟩
  · unfold Zw at e
    by_cases q : a ∈ G
    · rw [if_pos q] at e; exact e
    · rw [if_neg q] at e; exact h.zh _ _ e
  · unfold Zw
    rw [if_neg (hd a ha)]
    exact h.zf a (List.mem_append_right _ ha)
  · unfold Zw at e
    by_cases q : a ∈ G
    · rw [if_pos q] at e; exact (h.kd a (List.mem_append_left _ q) _ e).tb ps rfl
    · rw [if_neg q] at e; exact h.zt a ps e
  · by_cases q : a ∈ G
    · exact .inr (.inl (List.mem_append_left _ q))
    · unfold Zw at e; rw [if_neg q] at e; exact .inl e
end
/-! ### the names of a def -/
abbrev Env := List (Option D)
def RdE (C : Ct) (Z H : Hp) : Env → L2.St → List Addr → Prop
  | [], σ, F => σ = [] ∧ F = []
  | none :: e, σ, F => ∃ x s, σ = x :: s ∧ RdE C Z H e s F
  | some d :: e, σ, F => ∃ v s F1 F2, σ = some v :: s ∧ F = F1 ++ F2 ∧ RdV C Z H d v F1 ∧ RdE C Z H e s F2
section
variable {C : Ct} {Z H Z' H' : Hp}
theorem RdE.length : ∀ {env : Env} {σ : L2.St} {F : List Addr}, RdE C Z H env σ F → env.length = σ.length
  | [], _, _, h => by rw [h.1]; rfl
  | none :: e, _, _, h => by obtain ⟨x, s, rfl, h⟩ := h; simp [RdE.length h]
  | some d :: e, _, _, h => by obtain ⟨v, s, F1, F2, rfl, _, _, h⟩ := h; simp [RdE.length h]
theorem RdE.mono (sz : Same Z Z') : ∀ {env : Env} {σ : L2.St} {F : List Addr}, (∀ a ∈ F, H' a = H a) → RdE C Z H env σ F → RdE C Z' H' env σ F
  | [], _, _, _, h => h
  | none :: e, _, _, he, h => by obtain ⟨x, s, rfl, h⟩ := h; exact ⟨x, s, rfl, RdE.mono sz he h⟩
  | some d :: e, _, _, he, h => by
    obtain ⟨v, s, F1, F2, rfl, rfl, r, h⟩ := h
    exact ⟨v, s, F1, F2, rfl, rfl, RdV.mono sz d v F1 (fun a ha => he a (List.mem_append_left _ ha)) r, RdE.mono sz (fun a ha => he a (List.mem_append_right _ ha)) h⟩
theorem RdE.live : ∀ {env : Env} {σ : L2.St} {F : List Addr}, RdE C Z H env σ F → ∀ a ∈ F, H a ≠ none
  | [], _, _, h => by rw [h.2]; intro a ha; cases ha
  | none :: e, _, _, h => by obtain ⟨x, s, rfl, h⟩ := h; exact RdE.live h
  | some d :: e, _, _, h => by
    obtain ⟨v, s, F1, F2, rfl, rfl, r, h⟩ := h
    intro a ha
    rcases List.mem_append.mp ha with ha | ha
    · exact RdV.live d v F1 r a ha
    · exact RdE.live h a ha
theorem RdE.nk : ∀ {env : Env} {σ : L2.St} {F : List Addr}, RdE C Z H env σ F → ∀ a ∈ F, ∃ o, H a = some o ∧ NodeO a o
  | [], _, _, h => by rw [h.2]; intro a ha; cases ha
  | none :: e, _, _, h => by obtain ⟨x, s, rfl, h⟩ := h; exact RdE.nk h
  | some d :: e, _, _, h => by
    obtain ⟨v, s, F1, F2, rfl, rfl, r, h⟩ := h
    intro a ha
    rcases List.mem_append.mp ha with ha | ha
    · exact RdV.nk d v F1 r a ha
    · exact RdE.nk h a ha
/-- a name is taken out -/
theorem RdE.take : ∀ {env : Env} {σ : L2.St} {F : List Addr} {i : Nat} {d : D}, RdE C Z H env σ F → env[i]? = some (some d) →
    ∃ v F1 F2, σ[i]? = some (some v) ∧ RdV C Z H d v F1 ∧ F.Perm (F1 ++ F2) ∧ RdE C Z H (env.set i none) σ F2
  | [], _, _, i, d, h, e => by simp at e
  | none :: r, _, _, 0, d, h, e => by simp at e
  | none :: r, _, _, i + 1, d, h, e => by
    obtain ⟨x, s, rfl, h⟩ := h
    obtain ⟨v, F1, F2, h1, h2, h3, h4⟩ := RdE.take (i := i) h (by simpa using e)
    exact ⟨v, F1, F2, by simpa using h1, h2, h3, ⟨x, s, rfl, h4⟩⟩
  | some d0 :: r, _, _, 0, d, h, e => by
    obtain ⟨v, s, F1, F2, rfl, rfl, q, h⟩ := h
    obtain rfl : d0 = d := by simpa using e
    exact ⟨v, F1, F2, rfl, q, List.Perm.refl _, ⟨some v, s, rfl, h⟩⟩
  | some d0 :: r, _, _, i + 1, d, h, e => by
    obtain ⟨v0, s, G1, G2, rfl, rfl, q, h⟩ := h
    obtain ⟨v, F1, F2, h1, h2, h3, h4⟩ := RdE.take (i := i) h (by simpa using e)
    refine ⟨v, F1, G1 ++ F2, by simpa using h1, h2, ?_, ⟨v0, s, G1, F2, rfl, rfl, q, h4⟩⟩
    refine (List.Perm.append_left G1 h3).trans ?_
    rw [← List.append_assoc, ← List.append_assoc]
    exact List.Perm.append_right F2 List.perm_append_comm
/-- a name is forgotten -/
theorem RdE.drop : ∀ {env : Env} {σ : L2.St} {F : List Addr} (i : Nat), RdE C Z H env σ F → ∃ F2, F2.Sublist F ∧ RdE C Z H (env.set i none) σ F2
  | [], _, _, i, h => ⟨_, List.Sublist.refl _, by simpa using h⟩
  | none :: r, _, F, 0, h => ⟨F, List.Sublist.refl _, h⟩
  | none :: r, _, _, i + 1, h => by
    obtain ⟨x, s, rfl, h⟩ := h
    obtain ⟨F2, h1, h2⟩ := RdE.drop i h
    exact ⟨F2, h1, ⟨x, s, rfl, h2⟩⟩
  | some d0 :: r, _, _, 0, h => by
    obtain ⟨v, s, F1, F2, rfl, rfl, q, h⟩ := h
    exact ⟨F2, List.sublist_append_right .., ⟨some v, s, rfl, h⟩⟩
  | some d0 :: r, _, _, i + 1, h => by
    obtain ⟨v, s, F1, F2, rfl, rfl, q, h⟩ := h
    obtain ⟨F3, h1, h2⟩ := RdE.drop i h
    exact ⟨F1 ++ F3, List.Sublist.append_left h1 F1, ⟨v, s, F1, F3, rfl, rfl, q, h2⟩⟩
/-- a name is given -/
theorem RdE.put : ∀ {env : Env} {σ : L2.St} {F2 F1 : List Addr} {i : Nat} {d : D} {v : V}, RdE C Z H (env.set i none) σ F2 → i < env.length → RdV C Z H d v F1 →
    ∃ F, F.Perm (F1 ++ F2) ∧ RdE C Z H (env.set i (some d)) (σ.set i (some v)) F
  | [], _, _, _, i, d, v, h, e, r => by simp at e
  | x :: env, σ, F2, F1, 0, d, v, h, e, r => by
    obtain ⟨y, s, rfl, h⟩ := h
    exact ⟨F1 ++ F2, List.Perm.refl _, ⟨v, s, F1, F2, rfl, rfl, r, h⟩⟩
  | none :: env, σ, F2, F1, i + 1, d, v, h, e, r => by
    obtain ⟨y, s, rfl, h⟩ := h
    obtain ⟨F, h1, h2⟩ := RdE.put h (by simpa using e) r
    exact ⟨F, h1, ⟨y, _, rfl, h2⟩⟩
  | some d0 :: env, σ, F2, F1, i + 1, d, v, h, e, r => by
    obtain ⟨v0, s, G1, G2, rfl, rfl, q, h⟩ := h
    obtain ⟨F, h1, h2⟩ := RdE.put h (by simpa using e) r
    refine ⟨G1 ++ F, ?_, ⟨v0, _, G1, F, rfl, rfl, q, h2⟩⟩
    refine (List.Perm.append_left G1 h1).trans ?_
    rw [← List.append_assoc, ← List.append_assoc]
    exact List.Perm.append_right G2 List.perm_append_comm
theorem Ext.heldE {Ω : List (Addr × Str)} {F F' G : List Addr} {env : Env} {σ : L2.St} (x : Ext Ω Z H F Z' H' F') (hd : ∀ a ∈ G, a ∉ F) (r : RdE C Z H env σ G) : RdE C Z' H' env σ G := by
  refine RdE.mono x.zz (fun a ha => ?_) r
  obtain ⟨o, e, hn⟩ := RdE.nk r a ha
  rw [x.keep a o e (hd a ha) hn.tb, e]
end
end Mi
set_option maxHeartbeats 4000000
namespace Mi
open PySem PySem.Spec PyProof.Rows L2 RZ Ov
/-! ### what a mirror gives -/
structure Exn where
  c : String
  fs : List (String × D)
inductive R (α : Type) where
  | ok (a : α) (env : Env)
  | ex (x : Exn) (env : Env)
  | no
def R.bind {α β : Type} (r : R α) (f : α → Env → R β) : R β :=
  match r with
  | .ok a e => f a e
  | .ex x e => .ex x e
  | .no => .no
@[simp] theorem R.bind_ok {α β : Type} {a : α} {e : Env} {f : α → Env → R β} : (R.ok a e).bind f = f a e := rfl
@[simp] theorem R.bind_ex {α β : Type} {x : Exn} {e : Env} {f : α → Env → R β} : (R.ex x e).bind f = R.ex x e := rfl
@[simp] theorem R.bind_no {α β : Type} {f : α → Env → R β} : (R.no : R α).bind f = R.no := rfl
abbrev ME := Env → R D
abbrev MB := Env → R Bool
abbrev ML := Env → R (List D)
inductive Fl where
  | nx
  | rt (d : D)
  | bk
  | ct
abbrev MS := Env → R Fl
/-- what a body wants of exceptions; the names that are never given anew -/
structure Cn where
  C : Ct
  px : Option (Value → Option Addr → L2.St → Hp → Prop)
  pin : List Nat
def Pin (ps : List Nat) (σ σ' : L2.St) : Prop := σ'.length = σ.length ∧ ∀ i ∈ ps, σ'[i]? = σ[i]?
theorem Pin.refl (ps : List Nat) (σ : L2.St) : Pin ps σ σ := ⟨rfl, fun _ _ => rfl⟩
theorem Pin.trans {ps : List Nat} {σ σ1 σ2 : L2.St} (a : Pin ps σ σ1) (b : Pin ps σ1 σ2) : Pin ps σ σ2 := ⟨b.1.trans a.1, fun i h => (b.2 i h).trans (a.2 i h)⟩
def Wish (N : Cn) (σ : L2.St) (Z H : Hp) (F : List Addr) (x : Exn) (env : Env) : Prop :=
  match N.px with
  | none => False
  | some W => ∀ σ' (a : Option Addr) Ca Z' H' F' us, Pin N.pin σ σ' → Ext N.C.T Z H F Z' H' F' → RdE N.C Z' H' env σ' F' → N.C.cls x.c = some Ca → XdAt H' a us → RdF N.C Z' H' x.fs us [] → W (.ref Ca) a σ' H'
def Wp (N : Cn) (σ : L2.St) (Z H : Hp) (F : List Addr) {α : Type} (r : R α) (k : α → Env → Prop) : Prop :=
  match r with
  | .ok a e => k a e
  | .ex x e => Wish N σ Z H F x e
  | .no => False
section
variable {N : Cn} {σ σ' : L2.St} {Z H Z' H' : Hp} {F F' : List Addr} {α β : Type}
theorem Wish.trans {x : Exn} {env : Env} (w : Wish N σ Z H F x env) (p : Pin N.pin σ σ') (e : Ext N.C.T Z H F Z' H' F') : Wish N σ' Z' H' F' x env := by
  unfold Wish at w ⊢
  split at w
  · exact w
  · intro σ2 a Ca Z2 H2 F2 us p2 e2
    exact w σ2 a Ca Z2 H2 F2 us (p.trans p2) (e.trans e2)
theorem Wp.mono {r : R α} {k k' : α → Env → Prop} (w : Wp N σ Z H F r k) (p : Pin N.pin σ σ') (e : Ext N.C.T Z H F Z' H' F') (h : ∀ a env, k a env → k' a env) : Wp N σ' Z' H' F' r k' := by
  cases r with
  | ok a env => exact h a env w
  | ex x env => exact Wish.trans w p e
  | no => exact w
theorem Wp.bind {r : R α} {f : α → Env → R β} {k : β → Env → Prop} (w : Wp N σ Z H F (r.bind f) k) : Wp N σ Z H F r fun a env => Wp N σ Z H F (f a env) k := by
  cases r with
  | ok a env => exact w
  | ex x env => exact w
  | no => exact w
end
/-- an expression: its value may be kept -/
def RefE (N : Cn) (st : Bool) (t : TE) (m : ME) : Prop := ∀ env σ Z H F Q, Ok N.C.T Z H F → RdE N.C Z H env σ F →
  Wp N σ Z H F (m env) (fun d env' => ∀ v Z' H' Fv F', Ext N.C.T Z H F Z' H' (Fv ++ F') → RdV N.C Z' H' d v Fv → RdE N.C Z' H' env' σ F' → (st = true → Same H H') → Q v H') → t σ H Q
/-- .. its value is looked at once -/
def RefT (N : Cn) (st : Bool) (t : TE) (m : ME) : Prop := ∀ env σ Z H F Q, Ok N.C.T Z H F → RdE N.C Z H env σ F →
  Wp N σ Z H F (m env) (fun d env' => ∀ v Z' H' Fv F', Ext N.C.T Z H F Z' H' F' → RdV N.C Z' H' d v Fv → RdE N.C Z' H' env' σ F' → (st = true → Same H H') → Q v H') → t σ H Q
def RefB (N : Cn) (st : Bool) (t : TT) (m : MB) : Prop := ∀ env σ Z H F Q, Ok N.C.T Z H F → RdE N.C Z H env σ F →
  Wp N σ Z H F (m env) (fun b env' => ∀ Z' H' F', Ext N.C.T Z H F Z' H' F' → RdE N.C Z' H' env' σ F' → (st = true → Same H H') → Q b H') → t σ H Q
/-- arguments -/
def RefA (N : Cn) (st : Bool) (t : TA) (m : ML) : Prop := ∀ env σ Z H F Q, Ok N.C.T Z H F → RdE N.C Z H env σ F →
  Wp N σ Z H F (m env) (fun ds env' => ∀ vs Z' H' Fv F', Ext N.C.T Z H F Z' H' (Fv ++ F') → RdL N.C Z' H' ds vs Fv → RdE N.C Z' H' env' σ F' → (st = true → Same H H') → Q vs H') → t σ H Q
/-- each reads -/
def RdA (C : Ct) (Z H : Hp) : List D → List V → Prop
  | [], vs => vs = []
  | d :: ds, vs => ∃ v r F, vs = v :: r ∧ RdV C Z H d v F ∧ RdA C Z H ds r
def RefTA (N : Cn) (st : Bool) (t : TA) (m : ML) : Prop := ∀ env σ Z H F Q, Ok N.C.T Z H F → RdE N.C Z H env σ F →
  Wp N σ Z H F (m env) (fun ds env' => ∀ vs Z' H' F', Ext N.C.T Z H F Z' H' F' → RdA N.C Z' H' ds vs → RdE N.C Z' H' env' σ F' → (st = true → Same H H') → Q vs H') → t σ H Q
section
variable {N : Cn} {C : Ct} {Z H Z' H' : Hp} {F F' G Fv : List Addr}
theorem nodup_right {A B : List Addr} (h : (A ++ B).Nodup) : B.Nodup := (List.nodup_append.mp h).2.1
theorem nodup_left {A B : List Addr} (h : (A ++ B).Nodup) : A.Nodup := (List.nodup_append.mp h).1
theorem Ext.right (x : Ext Ω Z H F Z' H' (Fv ++ F')) : Ext Ω Z H F Z' H' F' := x.sub (nodup_right x.ok.nd) fun a ha => List.mem_append_right _ ha
theorem RefE.toT {st : Bool} {t : TE} {m : ME} (h : RefE N st t m) : RefT N st t m := fun env σ Z H F Q o r w =>
  h env σ Z H F Q o r (w.mono (Pin.refl _ _) (Ext.refl o) fun d env' k v Z' H' Fv F' x rv re s => k v Z' H' Fv F' x.right rv re s)
theorem RefE.weak {t : TE} {m : ME} {st : Bool} (h : RefE N st t m) : RefE N false t m := fun env σ Z H F Q o r w =>
  h env σ Z H F Q o r (w.mono (Pin.refl _ _) (Ext.refl o) fun d env' k v Z' H' Fv F' x rv re s => k v Z' H' Fv F' x rv re fun z => by cases z)
theorem RdE.same {env : Env} {σ : L2.St} (h : RdE C Z H env σ F) (zz : Same Z Z') (s : Same H H') : RdE C Z' H' env σ F := by
  refine RdE.mono zz (fun a ha => ?_) h
  cases e : H a with
  | none => exact absurd e (RdE.live h a ha)
  | some o => exact s a o e
theorem RdV.same {d : D} {v : V} (h : RdV C Z H d v F) (zz : Same Z Z') (s : Same H H') : RdV C Z' H' d v F := by
  refine RdV.mono zz d v F (fun a ha => ?_) h
  cases e : H a with
  | none => exact absurd e (RdV.live d v F h a ha)
  | some o => exact s a o e
theorem RdL.same {d : List D} {v : List V} (h : RdL C Z H d v F) (zz : Same Z Z') (s : Same H H') : RdL C Z' H' d v F := by
  refine RdL.mono zz d v F (fun a ha => ?_) h
  cases e : H a with
  | none => exact absurd e (RdL.live d v F h a ha)
  | some o => exact s a o e
theorem RdV.frozen {d : D} {v : V} (h : RdV C Z H d v []) (zz : Same Z Z') (H' : Hp) : RdV C Z' H' d v [] := RdV.mono zz d v [] (fun a ha => by cases ha) h
theorem RdL.frozen {d : List D} {v : List V} (h : RdL C Z H d v []) (zz : Same Z Z') (H' : Hp) : RdL C Z' H' d v [] := RdL.mono zz d v [] (fun a ha => by cases ha) h
theorem RdL.toA : ∀ {ds : List D} {vs : List V} {F : List Addr}, RdL C Z H ds vs F → RdA C Z H ds vs
  | [], _, _, h => by rw [RdL] at h; exact h.1
  | d :: ds, _, _, h => by
    rw [RdL] at h
    obtain ⟨v, r, F1, F2, h1, _, h3, h4⟩ := h
    exact ⟨v, r, F1, h1, h3, RdL.toA h4⟩
theorem RdA.same : ∀ {ds : List D} {vs : List V}, RdA C Z H ds vs → Same Z Z' → Same H H' → RdA C Z' H' ds vs
  | [], _, h, _, _ => h
  | d :: ds, _, h, zz, s => by
    obtain ⟨v, r, F, h1, h2, h3⟩ := h
    exact ⟨v, r, F, h1, h2.same zz s, RdA.same h3 zz s⟩
/-! ### leaves -/
def eC (d : D) : ME := fun env => .ok d env
/-- a name that is looked at -/
def eV (i : Nat) : ME := fun env => match env[i]? with | some (some d) => .ok d env | _ => .no
/-- a name whose value is kept elsewhere: it is frozen -/
def eVz (i : Nat) : ME := fun env => match env[i]? with | some (some d) => .ok (fz d) (env.set i (some (fz d))) | _ => .no
/-- a name whose value is handed on: it is forgotten -/
def eMv (i : Nat) : ME := fun env => match env[i]? with | some (some d) => .ok d (env.set i none) | _ => .no
/-- what was looked at and holds no owned node -/
def eK (m : ME) : ME := fun env => (m env).bind fun d e => if fzn d then .ok d e else .no
theorem re_c {d : D} {v : V} (h : ∀ Z H, RdV N.C Z H d v []) : RefE N true (tC v) (eC d) := fun env σ Z H F Q o r w =>
  w v Z H [] F (Ext.refl o) (h Z H) r fun _ => Same.refl _
theorem re_int {i : Int} : RefE N true (tC (.int i)) (eC (.int i)) := re_c fun _ _ => ⟨rfl, rfl⟩
theorem re_bl {i : Bool} : RefE N true (tC (.bl i)) (eC (.bl i)) := re_c fun _ _ => ⟨rfl, rfl⟩
theorem re_str {i : Str} : RefE N true (tC (.str i)) (eC (.str i)) := re_c fun _ _ => ⟨rfl, rfl⟩
theorem re_non : RefE N true (tC .non) (eC .non) := re_c fun _ _ => ⟨rfl, rfl⟩
theorem rt_v {i : Nat} : RefT N true (tVar i) (eV i) := fun env σ Z H F Q o r w => by
  unfold eV at w
  split at w
  · rename_i d e
    obtain ⟨v, F1, F2, h1, h2, h3, h4⟩ := r.take e
    exact ⟨v, h1, w v Z H F1 F (Ext.refl o) h2 r fun _ => Same.refl _⟩
  · exact w.elim
theorem perm_mem {A B : List Addr} (h : A.Perm B) : ∀ a ∈ B, a ∈ A := fun a ha => h.mem_iff.mpr ha
theorem re_vz {i : Nat} : RefE N true (tVar i) (eVz i) := fun env σ Z H F Q o r w => by
  unfold eVz at w
  split at w
  · rename_i d e
    obtain ⟨v, F1, F2, h1, h2, h3, h4⟩ := r.take e
    have o2 : Ok N.C.T Z H (F1 ++ F2) := o.sub (h3.nodup_iff.mp o.nd) (perm_mem h3)
    have x := Ext.freeze o2
    have hv := RdV.freeze (H' := H) (fun a ha => o2.zf a (List.mem_append_left _ ha)) d v F1 (fun a ha => ha) h2
    have h4' : RdE N.C (Zw Z H F1) H (env.set i none) σ F2 := h4.same x.zz (Same.refl _)
    have hlt : i < env.length := by
      rcases Nat.lt_or_ge i env.length with z | z
      · exact z
      · rw [List.getElem?_eq_none z] at e; cases e
    obtain ⟨G, g1, g2⟩ := RdE.put (i := i) h4' hlt hv
    have es : σ.set i (some v) = σ := by
      refine List.ext_getElem? fun j => ?_
      rw [List.getElem?_set]
      by_cases q : i = j
      · subst q
        rw [if_pos rfl, h1, if_pos (by rw [← r.length]; exact hlt)]
      · rw [if_neg q]
    rw [es] at g2
    refine ⟨v, h1, w v (Zw Z H F1) H [] G ?_ hv g2 fun _ => Same.refl _⟩
    refine (x.left (perm_mem h3)).sub ?_ fun a ha => by simpa using g1.mem_iff.mp ha
    exact (g1.nodup_iff).mpr (by simpa using x.ok.nd)
  · exact w.elim
theorem re_mv {i : Nat} : RefE N true (tVar i) (eMv i) := fun env σ Z H F Q o r w => by
  unfold eMv at w
  split at w
  · rename_i d e
    obtain ⟨v, F1, F2, h1, h2, h3, h4⟩ := r.take e
    exact ⟨v, h1, w v Z H F1 F2 ((Ext.refl o).sub (h3.nodup_iff.mp o.nd) (perm_mem h3)) h2 h4 fun _ => Same.refl _⟩
  · exact w.elim
theorem re_k {st : Bool} {t : TE} {m : ME} (h : RefT N st t m) : RefE N st t (eK m) := fun env σ Z H F Q o r w => by
  refine h env σ Z H F Q o r (w.bind.mono (Pin.refl _ _) (Ext.refl o) ?_)
  intro d env' k v Z' H' Fv F' x rv re s
  by_cases q : fzn d = true
  · rw [if_pos q] at k
    have := RdV.fzn d v Fv q rv
    subst this
    exact k v Z' H' [] F' x rv re s
  · rw [if_neg q] at k
    exact k.elim
/-! ### arguments -/
def lNil : ML := fun env => .ok [] env
def lCons (m : ME) (ms : ML) : ML := fun env => (m env).bind fun d e => (ms e).bind fun ds e => .ok (d :: ds) e
theorem ra_nil : RefA N true tNil lNil := fun env σ Z H F Q o r w => w [] Z H [] F (Ext.refl o) ⟨rfl, rfl⟩ r fun _ => Same.refl _
/-- held things stay while the rest is reckoned -/
theorem Ok.split (o : Ok Ω Z H (Fv ++ F)) : Ok Ω Z H F := o.sub (nodup_right o.nd) fun a ha => List.mem_append_right _ ha
theorem Ok.disj (o : Ok Ω Z H (Fv ++ F)) : ∀ a ∈ Fv, a ∉ F := fun a ha hf => (List.nodup_append.mp o.nd).2.2 a ha a hf rfl
theorem Ext.hold (x : Ext Ω Z H F Z' H' F') (o : Ok Ω Z H (Fv ++ F)) : Ext Ω Z H (Fv ++ F) Z' H' (Fv ++ F') := by
  have o2 : Ok Ω Z H (F ++ Fv) := o.sub (List.perm_append_comm.nodup_iff.mp o.nd) fun a ha => by simpa [or_comm] using ha
  have y := (x.frame o2).left (G := Fv ++ F) fun a ha => by simpa [or_comm] using ha
  exact y.sub (List.perm_append_comm.nodup_iff.mp y.ok.nd) fun a ha => by simpa [or_comm] using ha
theorem ra_cons {s1 s2 : Bool} {t : TE} {u : TA} {m : ME} {ms : ML} (h : RefE N s1 t m) (hs : RefA N s2 u ms) : RefA N (s1 && s2) (tCons t u) (lCons m ms) := fun env σ Z H F Q o r w => by
  refine h env σ Z H F _ o r (w.bind.mono (Pin.refl _ _) (Ext.refl o) ?_)
  intro d env1 k v Z1 H1 Fv F1 x1 rv r1 sm1
  have o1 : Ok N.C.T Z1 H1 F1 := x1.ok.split
  refine hs env1 σ Z1 H1 F1 _ o1 r1 ((Wp.bind (k.mono (Pin.refl _ _) x1.right fun _ _ z => z)).mono (Pin.refl _ _) (Ext.refl o1) ?_)
  intro ds env2 k2 vs Z2 H2 Fvs F2 x2 rvs r2 sm2
  have y := x2.hold x1.ok
  refine k2 (v :: vs) Z2 H2 (Fv ++ Fvs) F2 ?_ ?_ r2 fun z => ?_
  · rw [List.append_assoc]; exact x1.trans y
  · rw [RdL]; exact ⟨v, vs, Fv, Fvs, rfl, rfl, x2.held (x1.ok.disj) rv, rvs⟩
  · rw [Bool.and_eq_true] at z; exact (sm1 z.1).trans (sm2 z.2)
theorem rta_nil : RefTA N true tNil lNil := fun env σ Z H F Q o r w => w [] Z H F (Ext.refl o) rfl r fun _ => Same.refl _
theorem rta_cons {s1 : Bool} {t : TE} {u : TA} {m : ME} {ms : ML} (h : RefT N s1 t m) (hs : RefTA N true u ms) : RefTA N s1 (tCons t u) (lCons m ms) := fun env σ Z H F Q o r w => by
  refine h env σ Z H F _ o r (w.bind.mono (Pin.refl _ _) (Ext.refl o) ?_)
  intro d env1 k v Z1 H1 Fv F1 x1 rv r1 sm1
  refine hs env1 σ Z1 H1 F1 _ x1.ok r1 ((Wp.bind (k.mono (Pin.refl _ _) x1 fun _ _ z => z)).mono (Pin.refl _ _) (Ext.refl x1.ok) ?_)
  intro ds env2 k2 vs Z2 H2 F2 x2 rvs r2 sm2
  exact k2 (v :: vs) Z2 H2 F2 (x1.trans x2) ⟨v, vs, Fv, rfl, rv.same x2.zz (sm2 rfl), rvs⟩ r2 fun z => (sm1 z).trans (sm2 rfl)
theorem RefA.toTA {st : Bool} {t : TA} {m : ML} (h : RefA N st t m) : RefTA N st t m := fun env σ Z H F Q o r w =>
  h env σ Z H F Q o r (w.mono (Pin.refl _ _) (Ext.refl o) fun d env' k v Z' H' Fv F' x rv re s => k v Z' H' F' x.right rv.toA re s)
/-! ### operators on values: they add to the heap, and change nothing -/
abbrev Post (C : Ct) (Z H : Hp) (F : List Addr) (d : D) (Q : VK) : Prop := ∀ v Z' H' Fv, Ext C.T Z H F Z' H' (Fv ++ F) → RdV C Z' H' d v Fv → Same H H' → Q v H'
def Fn1 (C : Ct) (r : V → Hp → VK → Prop) (f : D → Option D) : Prop := ∀ d v Fd Z H F Q e, Ok C.T Z H F → RdV C Z H d v Fd → f d = some e → Post C Z H F e Q → r v H Q
def Fn2 (C : Ct) (r : R2) (f : D → D → Option D) : Prop := ∀ d v Fd d' v' Fd' Z H F Q e, Ok C.T Z H F → RdV C Z H d v Fd → RdV C Z H d' v' Fd' → f d d' = some e → Post C Z H F e Q → r v v' H Q
def FnL (C : Ct) (r : List V → Hp → VK → Prop) (f : List D → Option D) : Prop := ∀ ds vs Z H F Q e, Ok C.T Z H F → RdA C Z H ds vs → f ds = some e → Post C Z H F e Q → r vs H Q
def lift (o : Option D) (env : Env) : R D := match o with | some d => .ok d env | none => .no
@[simp] theorem lift_some {d : D} {env : Env} : lift (some d) env = .ok d env := rfl
@[simp] theorem lift_none {env : Env} : lift none env = .no := rfl
def e1 (f : D → Option D) (m : ME) : ME := fun env => (m env).bind fun d e => lift (f d) e
/-- the second changes no owned thing -/
def e2 (f : D → D → Option D) (m n : ME) : ME := fun env => (m env).bind fun d e => (n e).bind fun d' e => lift (f d d') e
def eL (f : List D → Option D) (m : ML) : ME := fun env => (m env).bind fun ds e => lift (f ds) e
theorem post_end {st : Bool} {Q : VK} {d : D} {env : Env} {σ : L2.St} {Z0 H0 : Hp} {F0 : List Addr} {o : Option D} {Zx Hx : Hp} {Fx : List Addr} (x : Ext N.C.T Z0 H0 F0 Z H F) (r : RdE N.C Z H env σ F) (sm : st = true → Same H0 H) (e : o = some d)
    (w : Wp N σ Zx Hx Fx (lift o env) (fun d env' => ∀ v Z' H' Fv F', Ext N.C.T Z0 H0 F0 Z' H' (Fv ++ F') → RdV N.C Z' H' d v Fv → RdE N.C Z' H' env' σ F' → (st = true → Same H0 H') → Q v H')) : Post N.C Z H F d Q := by
  intro v Z' H' Fv y rv s
  rw [e] at w
  exact w v Z' H' Fv F (x.trans y) rv (r.same y.zz s) fun z => (sm z).trans s
theorem wp_lift {k : D → Env → Prop} {σ : L2.St} {o : Option D} {env : Env} (w : Wp N σ Z H F (lift o env) k) : ∃ d, o = some d := by
  cases o with
  | some d => exact ⟨d, rfl⟩
  | none => exact w.elim
theorem re_un {st : Bool} {r : V → Hp → VK → Prop} {f : D → Option D} {t : TE} {m : ME} (hf : Fn1 N.C r f) (h : RefT N st t m) : RefE N st (tUn r t) (e1 f m) := fun env σ Z H F Q o re w => by
  refine h env σ Z H F _ o re (w.bind.mono (Pin.refl _ _) (Ext.refl o) ?_)
  intro d env1 k v Z1 H1 Fd F1 x rd r1 sm
  obtain ⟨e, he⟩ := wp_lift k
  exact hf d v Fd Z1 H1 F1 Q e x.ok rd he (post_end x r1 sm he k)
theorem re_op {s1 : Bool} {r : R2} {f : D → D → Option D} {t u : TE} {m n : ME} (hf : Fn2 N.C r f) (h : RefT N s1 t m) (hu : RefT N true u n) : RefE N s1 (tOp r t u) (e2 f m n) := fun env σ Z H F Q o re w => by
  refine h env σ Z H F _ o re (w.bind.mono (Pin.refl _ _) (Ext.refl o) ?_)
  intro d env1 k v Z1 H1 Fd F1 x1 rd r1 sm1
  refine hu env1 σ Z1 H1 F1 _ x1.ok r1 ((Wp.bind (k.mono (Pin.refl _ _) x1 fun _ _ z => z)).mono (Pin.refl _ _) (Ext.refl x1.ok) ?_)
  intro d2 env2 k2 v2 Z2 H2 Fd2 F2 x2 rd2 r2 sm2
  obtain ⟨e, he⟩ := wp_lift k2
  exact hf d v Fd d2 v2 Fd2 Z2 H2 F2 Q e x2.ok (rd.same x2.zz (sm2 rfl)) rd2 he (post_end (x1.trans x2) r2 (fun z => (sm1 z).trans (sm2 rfl)) he k2)
theorem re_opk {s1 s2 : Bool} {r : R2} {f : D → D → Option D} {t u : TE} {m n : ME} (hf : Fn2 N.C r f) (h : RefE N s1 t m) (hu : RefT N s2 u n) : RefE N (s1 && s2) (tOp r t u) (e2 f m n) := fun env σ Z H F Q o re w => by
  refine h env σ Z H F _ o re (w.bind.mono (Pin.refl _ _) (Ext.refl o) ?_)
  intro d env1 k v Z1 H1 Fd F1 x1 rd r1 sm1
  have o1 := x1.ok.split
  refine hu env1 σ Z1 H1 F1 _ o1 r1 ((Wp.bind (k.mono (Pin.refl _ _) x1.right fun _ _ z => z)).mono (Pin.refl _ _) (Ext.refl o1) ?_)
  intro d2 env2 k2 v2 Z2 H2 Fd2 F2 x2 rd2 r2 sm2
  obtain ⟨e, he⟩ := wp_lift k2
  refine hf d v Fd d2 v2 Fd2 Z2 H2 F2 Q e x2.ok (x2.held x1.ok.disj rd) rd2 he (post_end (x1.right.trans x2) r2 (fun z => ?_) he k2)
  rw [Bool.and_eq_true] at z
  exact (sm1 z.1).trans (sm2 z.2)
theorem re_cb {st : Bool} {r : List V → Hp → VK → Prop} {f : List D → Option D} {t : TA} {m : ML} (hf : FnL N.C r f) (h : RefTA N st t m) : RefE N st (tCB r t) (eL f m) := fun env σ Z H F Q o re w => by
  refine h env σ Z H F _ o re (w.bind.mono (Pin.refl _ _) (Ext.refl o) ?_)
  intro d env1 k v Z1 H1 F1 x rd r1 sm
  obtain ⟨e, he⟩ := wp_lift k
  exact hf d v Z1 H1 F1 Q e x.ok rd he (post_end x r1 sm he k)
theorem post_val {d : D} {v : V} {Q : VK} (o : Ok C.T Z H F) (p : Post C Z H F d Q) (h : RdV C Z H d v []) : Q v H := p v Z H [] (Ext.refl o) h (Same.refl _)
/-! ### truth, and, or, not, if -/
def bB (m : ME) : MB := fun env => (m env).bind fun d e => match d with | .bl b => .ok b e | _ => .no
def bAnd (m n : MB) : MB := fun env => (m env).bind fun b e => if b then n e else .ok false e
def bOr (m n : MB) : MB := fun env => (m env).bind fun b e => if b then .ok true e else n e
def bNot (m : MB) : MB := fun env => (m env).bind fun b e => .ok (!b) e
def eIf (c : MB) (m n : ME) : ME := fun env => (c env).bind fun b e => if b then m e else n e
theorem rb_core {st : Bool} {t : TE} {m : ME} (h : RefT N st t m) : RefB N st (fun σ H Q => t σ H fun x H' => ∃ k, x = .bl k ∧ Q k H') (bB m) := fun env σ Z H F Q o re w => by
  refine h env σ Z H F _ o re (w.bind.mono (Pin.refl _ _) (Ext.refl o) ?_)
  intro d env1 k v Z1 H1 Fd F1 x rd r1 sm
  cases d with
  | bl b =>
    rw [RdV] at rd
    exact ⟨b, rd.1, k Z1 H1 F1 x r1 sm⟩
  | _ => exact k.elim
theorem rb_b {st : Bool} {t : TE} {m : ME} (h : RefT N st t m) : RefB N st (tB t) (bB m) := rb_core h
theorem rb_test {st : Bool} {t : TE} {m : ME} (h : RefT N st t m) : RefB N st (tTest t) (bB m) := rb_core h
theorem Wp.ite {b : Bool} {α : Type} {x y : R α} {σ : L2.St} {k : α → Env → Prop} (w : Wp N σ Z H F (if b then x else y) k) : if b = true then Wp N σ Z H F x k else Wp N σ Z H F y k := by
  cases b <;> exact w
theorem rb_and {s1 s2 : Bool} {t u : TT} {m n : MB} (h : RefB N s1 t m) (hu : RefB N s2 u n) : RefB N (s1 && s2) (tAnd t u) (bAnd m n) := fun env σ Z H F Q o re w => by
  refine h env σ Z H F _ o re (w.bind.mono (Pin.refl _ _) (Ext.refl o) ?_)
  intro b env1 k Z1 H1 F1 x r1 sm
  cases b with
  | true =>
    rw [if_pos rfl]
    refine hu env1 σ Z1 H1 F1 _ x.ok r1 (Wp.mono k (Pin.refl _ _) x fun b2 env2 k2 Z2 H2 F2 x2 r2 sm2 => k2 Z2 H2 F2 (x.trans x2) r2 fun z => ?_)
    rw [Bool.and_eq_true] at z
    exact (sm z.1).trans (sm2 z.2)
  | false =>
    rw [if_neg Bool.false_ne_true]
    exact k Z1 H1 F1 x r1 fun z => sm (Bool.and_eq_true _ _ ▸ z).1
theorem rb_or {s1 s2 : Bool} {t u : TT} {m n : MB} (h : RefB N s1 t m) (hu : RefB N s2 u n) : RefB N (s1 && s2) (tOr t u) (bOr m n) := fun env σ Z H F Q o re w => by
  refine h env σ Z H F _ o re (w.bind.mono (Pin.refl _ _) (Ext.refl o) ?_)
  intro b env1 k Z1 H1 F1 x r1 sm
  cases b with
  | false =>
    rw [if_neg Bool.false_ne_true]
    refine hu env1 σ Z1 H1 F1 _ x.ok r1 (Wp.mono k (Pin.refl _ _) x fun b2 env2 k2 Z2 H2 F2 x2 r2 sm2 => k2 Z2 H2 F2 (x.trans x2) r2 fun z => ?_)
    rw [Bool.and_eq_true] at z
    exact (sm z.1).trans (sm2 z.2)
  | true =>
    rw [if_pos rfl]
    exact k Z1 H1 F1 x r1 fun z => sm (Bool.and_eq_true _ _ ▸ z).1
theorem rb_not {s1 : Bool} {t : TT} {m : MB} (h : RefB N s1 t m) : RefB N s1 (tNot t) (bNot m) := fun env σ Z H F Q o re w => by
  refine h env σ Z H F _ o re (w.bind.mono (Pin.refl _ _) (Ext.refl o) ?_)
  intro b env1 k Z1 H1 F1 x r1 sm
  exact k Z1 H1 F1 x r1 sm
/-- and, or, not as values of bools -/
def eAnd (m n : ME) : ME := fun env => (m env).bind fun d e => match d with | .bl true => n e | .bl false => .ok (.bl false) e | _ => .no
def eOr (m n : ME) : ME := fun env => (m env).bind fun d e => match d with | .bl true => .ok (.bl true) e | .bl false => n e | _ => .no
def eNot (m : ME) : ME := fun env => (m env).bind fun d e => match d with | .bl b => .ok (.bl (!b)) e | _ => .no
theorem rd_bl {b : Bool} : RdV C Z H (.bl b) (.bl b) [] := ⟨rfl, rfl⟩
theorem rd_int {b : Int} : RdV C Z H (.int b) (.int b) [] := ⟨rfl, rfl⟩
theorem rd_str {b : Str} : RdV C Z H (.str b) (.str b) [] := ⟨rfl, rfl⟩
theorem rd_non : RdV C Z H .non .non [] := ⟨rfl, rfl⟩
theorem re_and {s1 s2 : Bool} {t u : TE} {m n : ME} (h : RefT N s1 t m) (hu : RefE N s2 u n) : RefE N (s1 && s2) (tAndV t u) (eAnd m n) := fun env σ Z H F Q o re w => by
  refine h env σ Z H F _ o re (w.bind.mono (Pin.refl _ _) (Ext.refl o) ?_)
  intro d env1 k v Z1 H1 Fd F1 x rd r1 sm
  cases d with
  | bl b =>
    rw [RdV] at rd
    refine ⟨b, rd.1, ?_⟩
    cases b with
    | true =>
      rw [if_pos rfl]
      refine hu env1 σ Z1 H1 F1 _ x.ok r1 (Wp.mono k (Pin.refl _ _) x fun b2 env2 k2 v2 Z2 H2 Fv F2 x2 rv2 r2 sm2 => k2 v2 Z2 H2 Fv F2 (x.trans x2) rv2 r2 fun z => ?_)
      rw [Bool.and_eq_true] at z
      exact (sm z.1).trans (sm2 z.2)
    | false =>
      rw [if_neg Bool.false_ne_true]
      exact k _ Z1 H1 [] F1 x rd_bl r1 fun z => sm (Bool.and_eq_true _ _ ▸ z).1
  | _ => exact k.elim
theorem re_or {s1 s2 : Bool} {t u : TE} {m n : ME} (h : RefT N s1 t m) (hu : RefE N s2 u n) : RefE N (s1 && s2) (tOrV t u) (eOr m n) := fun env σ Z H F Q o re w => by
  refine h env σ Z H F _ o re (w.bind.mono (Pin.refl _ _) (Ext.refl o) ?_)
  intro d env1 k v Z1 H1 Fd F1 x rd r1 sm
  cases d with
  | bl b =>
    rw [RdV] at rd
    refine ⟨b, rd.1, ?_⟩
    cases b with
    | false =>
      rw [if_neg Bool.false_ne_true]
      refine hu env1 σ Z1 H1 F1 _ x.ok r1 (Wp.mono k (Pin.refl _ _) x fun b2 env2 k2 v2 Z2 H2 Fv F2 x2 rv2 r2 sm2 => k2 v2 Z2 H2 Fv F2 (x.trans x2) rv2 r2 fun z => ?_)
      rw [Bool.and_eq_true] at z
      exact (sm z.1).trans (sm2 z.2)
    | true =>
      rw [if_pos rfl]
      exact k _ Z1 H1 [] F1 x rd_bl r1 fun z => sm (Bool.and_eq_true _ _ ▸ z).1
  | _ => exact k.elim
theorem re_not {s1 : Bool} {t : TE} {m : ME} (h : RefT N s1 t m) : RefE N s1 (tNotV t) (eNot m) := fun env σ Z H F Q o re w => by
  refine h env σ Z H F _ o re (w.bind.mono (Pin.refl _ _) (Ext.refl o) ?_)
  intro d env1 k v Z1 H1 Fd F1 x rd r1 sm
  cases d with
  | bl b =>
    rw [RdV] at rd
    exact ⟨b, rd.1, k _ Z1 H1 [] F1 x rd_bl r1 sm⟩
  | _ => exact k.elim
theorem re_if {s1 s2 s3 : Bool} {c : TT} {t u : TE} {b : MB} {m n : ME} (hc : RefB N s1 c b) (ht : RefE N s2 t m) (hu : RefE N s3 u n) : RefE N (s1 && s2 && s3) (tIf c t u) (eIf b m n) := fun env σ Z H F Q o re w => by
  refine hc env σ Z H F _ o re (w.bind.mono (Pin.refl _ _) (Ext.refl o) ?_)
  intro b env1 k Z1 H1 F1 x r1 sm
  cases b with
  | true =>
    rw [if_pos rfl]
    refine ht env1 σ Z1 H1 F1 _ x.ok r1 (Wp.mono k (Pin.refl _ _) x fun b2 env2 k2 v2 Z2 H2 Fv F2 x2 rv2 r2 sm2 => k2 v2 Z2 H2 Fv F2 (x.trans x2) rv2 r2 fun z => ?_)
    simp only [Bool.and_eq_true] at z
    exact (sm z.1.1).trans (sm2 z.1.2)
  | false =>
    rw [if_neg Bool.false_ne_true]
    refine hu env1 σ Z1 H1 F1 _ x.ok r1 (Wp.mono k (Pin.refl _ _) x fun b2 env2 k2 v2 Z2 H2 Fv F2 x2 rv2 r2 sm2 => k2 v2 Z2 H2 Fv F2 (x.trans x2) rv2 r2 fun z => ?_)
    simp only [Bool.and_eq_true] at z
    exact (sm z.1.1).trans (sm2 z.2)
/-! ### displays -/
def eTup (m : ML) : ME := fun env => (m env).bind fun ds e => if fznL ds && decide (ds.length ≤ sizeLine) then .ok (.tup ds) e else .no
def eLst (m : ML) : ME := fun env => (m env).bind fun ds e => if ds.length ≤ sizeLine then .ok (.lst true ds) e else .no
theorem RdL.length : ∀ {ds : List D} {vs : List V} {F : List Addr}, RdL C Z H ds vs F → ds.length = vs.length
  | [], _, _, h => by rw [RdL] at h; rw [h.1]; rfl
  | d :: ds, _, _, h => by
    rw [RdL] at h
    obtain ⟨v, r, F1, F2, rfl, _, _, h4⟩ := h
    simp [RdL.length h4]
theorem re_tup {st : Bool} {t : TA} {m : ML} (h : RefA N st t m) : RefE N st (tTup t) (eTup m) := fun env σ Z H F Q o re w => by
  refine h env σ Z H F _ o re (w.bind.mono (Pin.refl _ _) (Ext.refl o) ?_)
  intro ds env1 k vs Z1 H1 Fv F1 x rd r1 sm
  by_cases q : (fznL ds && decide (ds.length ≤ sizeLine)) = true
  · rw [if_pos q] at k
    rw [Bool.and_eq_true, decide_eq_true_eq] at q
    have := RdL.fznL ds vs Fv q.1 rd
    subst this
    refine ⟨by rw [← rd.length]; exact q.2, fun p hp => ?_⟩
    have y := Ext.newZ (o := .tup vs) x.right.ok hp
    refine k (.ref p) _ _ [] F1 (x.right.trans y) ?_ (r1.same y.zz (same_new hp)) fun z => (sm z).trans (same_new hp)
    rw [RdV]
    exact ⟨rfl, p, vs, rfl, sqT_of upd_same, rd.frozen y.zz _⟩
  · rw [if_neg q] at k
    exact k.elim
theorem re_lst {st : Bool} {t : TA} {m : ML} (h : RefA N st t m) : RefE N st (tLst t) (eLst m) := fun env σ Z H F Q o re w => by
  refine h env σ Z H F _ o re (w.bind.mono (Pin.refl _ _) (Ext.refl o) ?_)
  intro ds env1 k vs Z1 H1 Fv F1 x rd r1 sm
  by_cases q : ds.length ≤ sizeLine
  · rw [if_pos q] at k
    refine ⟨by rw [← rd.length]; exact q, fun p hp => ?_⟩
    have y := Ext.new (o := .lst vs) x.ok hp
    refine k (.ref p) _ _ (p :: Fv) F1 (x.trans y) ?_ (r1.same y.zz (same_new hp)) fun z => (sm z).trans (same_new hp)
    rw [RdV]
    exact ⟨p, vs, Fv, rfl, upd_same, rfl, rd.same y.zz (same_new hp)⟩
  · rw [if_neg q] at k
    exact k.elim
end
end Mi
set_option maxHeartbeats 4000000
namespace Mi
open PySem PySem.Spec PyProof.Rows L2 RZ Ov
/-! ### statements -/
def Aft (N : Cn) (σ : L2.St) (Z H : Hp) (F : List Addr) (D0 : Ends) (fl : Fl) (env : Env) : Prop :=
  match fl with
  | .nx => ∀ σ' Z' H' F', Pin N.pin σ σ' → Ext N.C.T Z H F Z' H' F' → RdE N.C Z' H' env σ' F' → D0.nx σ' H'
  | .bk => ∀ σ' Z' H' F', Pin N.pin σ σ' → Ext N.C.T Z H F Z' H' F' → RdE N.C Z' H' env σ' F' → D0.bk σ' H'
  | .ct => ∀ σ' Z' H' F', Pin N.pin σ σ' → Ext N.C.T Z H F Z' H' F' → RdE N.C Z' H' env σ' F' → D0.ct σ' H'
  | .rt d => ∀ σ' v Z' H' Fv F', Pin N.pin σ σ' → Ext N.C.T Z H F Z' H' (Fv ++ F') → RdV N.C Z' H' d v Fv → RdE N.C Z' H' env σ' F' → D0.rt v H'
def RefS (N : Cn) (t : TS) (m : MS) : Prop := ∀ env σ Z H F D0, Ok N.C.T Z H F → RdE N.C Z H env σ F →
  Wp N σ Z H F (m env) (Aft N σ Z H F D0) → t D0 σ H
def sSeq (m n : MS) : MS := fun env => (m env).bind fun fl e => match fl with | .nx => n e | fl => .ok fl e
def sPass : MS := fun env => .ok .nx env
def sBk : MS := fun env => .ok .bk env
def sCt : MS := fun env => .ok .ct env
def sNo : MS := fun _ => .no
def sRet (m : ME) : MS := fun env => (m env).bind fun d e => .ok (.rt d) e
def sRetN : MS := fun env => .ok (.rt .non) env
def sExpr (m : ME) : MS := fun env => (m env).bind fun _ e => .ok .nx e
def sIf (c : MB) (m n : MS) : MS := fun env => (c env).bind fun b e => if b then m e else n e
section
variable {N : Cn} {C : Ct} {Z H Z' H' Z1 H1 : Hp} {F F' G Fv F1 : List Addr} {σ σ1 : L2.St}
theorem Aft.trans {D0 : Ends} {fl : Fl} {env : Env} (w : Aft N σ Z H F D0 fl env) (p : Pin N.pin σ σ1) (x : Ext N.C.T Z H F Z1 H1 F1) : Aft N σ1 Z1 H1 F1 D0 fl env := by
  cases fl with
  | nx => exact fun σ' Z' H' F' p' x' r => w σ' Z' H' F' (p.trans p') (x.trans x') r
  | bk => exact fun σ' Z' H' F' p' x' r => w σ' Z' H' F' (p.trans p') (x.trans x') r
  | ct => exact fun σ' Z' H' F' p' x' r => w σ' Z' H' F' (p.trans p') (x.trans x') r
  | rt d => exact fun σ' v Z' H' Fv F' p' x' rv r => w σ' v Z' H' Fv F' (p.trans p') (x.trans x') rv r
theorem rs_seq {t u : TS} {m n : MS} (h : RefS N t m) (hu : RefS N u n) : RefS N (tSeq t u) (sSeq m n) := fun env σ Z H F D0 o r w => by
  refine h env σ Z H F _ o r (w.bind.mono (Pin.refl _ _) (Ext.refl o) ?_)
  intro fl env1 k
  cases fl with
  | nx => exact fun σ1 Z1 H1 F1 p x r1 => hu env1 σ1 Z1 H1 F1 D0 x.ok r1 (k.mono p x fun fl env2 k2 => k2.trans p x)
  | bk => exact k
  | ct => exact k
  | rt d => exact k
theorem rs_pass : RefS N tNext sPass := fun env σ Z H F D0 o r w => w σ Z H F (Pin.refl _ _) (Ext.refl o) r
theorem rs_never {t : TS} : RefS N t sNo := fun env σ Z H F D0 o r w => w.elim
theorem rs_ret {st : Bool} {t : TE} {m : ME} (h : RefE N st t m) : RefS N (tRet t) (sRet m) := fun env σ Z H F D0 o r w => by
  refine h env σ Z H F _ o r (w.bind.mono (Pin.refl _ _) (Ext.refl o) ?_)
  intro d env1 k v Z1 H1 Fv F1 x rv r1 _
  exact k σ v Z1 H1 Fv F1 (Pin.refl _ _) x rv r1
theorem rs_expr {st : Bool} {t : TE} {m : ME} (h : RefT N st t m) : RefS N (tDrop t) (sExpr m) := fun env σ Z H F D0 o r w => by
  refine h env σ Z H F _ o r (w.bind.mono (Pin.refl _ _) (Ext.refl o) ?_)
  intro d env1 k v Z1 H1 Fv F1 x rv r1 _
  exact k σ Z1 H1 F1 (Pin.refl _ _) x r1
theorem rs_if {st : Bool} {c : TT} {t u : TS} {b : MB} {m n : MS} (hc : RefB N st c b) (h : RefS N t m) (hu : RefS N u n) : RefS N (tIfS c t u) (sIf b m n) := fun env σ Z H F D0 o r w => by
  refine hc env σ Z H F _ o r (w.bind.mono (Pin.refl _ _) (Ext.refl o) ?_)
  intro b env1 k Z1 H1 F1 x r1 _
  cases b with
  | true =>
    rw [if_pos rfl]
    exact h env1 σ Z1 H1 F1 D0 x.ok r1 (Wp.mono k (Pin.refl _ _) x fun fl e k => k.trans (Pin.refl _ _) x)
  | false =>
    rw [if_neg Bool.false_ne_true]
    exact hu env1 σ Z1 H1 F1 D0 x.ok r1 (Wp.mono k (Pin.refl _ _) x fun fl e k => k.trans (Pin.refl _ _) x)
/-! ### targets -/
abbrev MG := D → Env → Option Env
def gN (i : Nat) : MG := fun d env => some (env.set i (some d))
def RefG (N : Cn) (ws : List Nat) (g : TG) (m : MG) : Prop := ∀ env σ Z H F Fv d v Q env', Ok N.C.T Z H (Fv ++ F) → RdE N.C Z H env σ F → RdV N.C Z H d v Fv → m d env = some env' →
  (∀ σ' F', F'.Nodup → (∀ a ∈ F', a ∈ Fv ++ F) → (σ'.length = σ.length ∧ ∀ i, i ∉ ws → σ'[i]? = σ[i]?) → RdE N.C Z H env' σ' F' → Q σ' H) → g v σ H Q
theorem rd_set {env : Env} {d : D} {v : V} {i : Nat} (o : Ok C.T Z H (Fv ++ F)) (r : RdE C Z H env σ F) (rv : RdV C Z H d v Fv) : ∃ F', F'.Nodup ∧ (∀ a ∈ F', a ∈ Fv ++ F) ∧ RdE C Z H (env.set i (some d)) (σ.set i (some v)) F' := by
  by_cases hi : i < env.length
  · obtain ⟨F2, h1, h2⟩ := r.drop i
    obtain ⟨F3, h3, h4⟩ := RdE.put h2 hi rv
    refine ⟨F3, ?_, ?_, h4⟩
    · refine h3.nodup_iff.mpr (List.nodup_append.mpr ⟨nodup_left o.nd, h1.nodup (nodup_right o.nd), ?_⟩)
      intro a ha b hb e
      subst e
      exact o.disj a ha (h1.mem hb)
    · intro a ha
      rcases List.mem_append.mp (h3.mem_iff.mp ha) with z | z
      · exact List.mem_append_left _ z
      · exact List.mem_append_right _ (h1.mem z)
  · rw [List.set_eq_of_length_le (by omega), List.set_eq_of_length_le (by rw [← r.length]; omega)]
    exact ⟨F, nodup_right o.nd, fun a ha => List.mem_append_right _ ha, r⟩
theorem rg_n {i : Nat} : RefG N [i] (gName i) (gN i) := fun env σ Z H F Fv d v Q env' o r rv e k => by
  obtain rfl : env.set i (some d) = env' := Option.some.inj e
  obtain ⟨F', h1, h2, h3⟩ := rd_set (i := i) o r rv
  refine k _ F' h1 h2 ⟨List.length_set .., fun j hj => ?_⟩ h3
  rw [List.getElem?_set_ne (by simpa [eq_comm] using hj)]
abbrev MGs := List D → Env → Option Env
def gsNil : MGs := fun ds env => match ds with | [] => some env | _ => none
def gsCons (g : MG) (gs : MGs) : MGs := fun ds env => match ds with | d :: r => (g d env).bind (gs r) | [] => none
def gT (gs : MGs) : MG := fun d env => match d with | .tup ds => gs ds env | _ => none
structure RefGs (N : Cn) (ws : List Nat) (n : Nat) (g : TGs) (m : MGs) : Prop where
  len : ∀ ds env env', m ds env = some env' → ds.length = n
  run : ∀ env σ Z H F ds vs Q env', Ok N.C.T Z H F → RdE N.C Z H env σ F → RdL N.C Z H ds vs [] → m ds env = some env' →
    (∀ σ' F', F'.Nodup → (∀ a ∈ F', a ∈ F) → (σ'.length = σ.length ∧ ∀ i, i ∉ ws → σ'[i]? = σ[i]?) → RdE N.C Z H env' σ' F' → Q σ' H) → g vs σ H Q
theorem rgs_nil : RefGs N [] 0 gNil gsNil := by
  refine ⟨fun ds env env' e => ?_, fun env σ Z H F ds vs Q env' o r rv e k => ?_⟩
  · cases ds with
    | nil => rfl
    | cons => cases e
  · cases ds with
    | nil =>
      rw [RdL] at rv
      obtain rfl : env = env' := Option.some.inj e
      rw [rv.1]
      exact ⟨rfl, k σ F o.nd (fun a ha => ha) ⟨rfl, fun _ _ => rfl⟩ r⟩
    | cons => cases e
theorem rgs_cons {ws ws2 : List Nat} {n : Nat} {g : TG} {gs : TGs} {m : MG} {ms : MGs} (h : RefG N ws g m) (hs : RefGs N ws2 n gs ms) : RefGs N (ws ++ ws2) (n + 1) (gCons g gs) (gsCons m ms) := by
  refine ⟨fun ds env env' e => ?_, fun env σ Z H F ds vs Q env' o r rv e k => ?_⟩
  · cases ds with
    | nil => cases e
    | cons d ds =>
      have e : ((m d env).bind (ms ds)) = some env' := e
      cases q : m d env with
      | none => rw [q] at e; cases e
      | some env1 =>
        rw [q] at e
        rw [List.length_cons, hs.len ds env1 env' e]
  · cases ds with
    | nil => cases e
    | cons d ds =>
      rw [RdL] at rv
      obtain ⟨v, vr, F1, F2, rfl, hF, rv1, rv2⟩ := rv
      obtain ⟨rfl, rfl⟩ : F1 = [] ∧ F2 = [] := by
        have := hF.symm
        simpa using this
      have e : ((m d env).bind (ms ds)) = some env' := e
      cases q : m d env with
      | none => rw [q] at e; cases e
      | some env1 =>
        rw [q] at e
        have e : ms ds env1 = some env' := e
        refine ⟨v, vr, rfl, h env σ Z H F [] d v _ env1 (by simpa using o) r rv1 q fun σ1 F1 h1 h2 h3 h4 => ?_⟩
        have o1 : Ok N.C.T Z H F1 := o.sub h1 (by simpa using h2)
        refine hs.run env1 σ1 Z H F1 ds vr Q env' o1 h4 rv2 e fun σ2 F2 g1 g2 g3 g4 => k σ2 F2 g1 (fun a ha => by simpa using h2 a (g2 a ha)) ⟨g3.1.trans h3.1, fun i hi => ?_⟩ g4
        rw [List.mem_append, not_or] at hi
        rw [g3.2 i hi.2, h3.2 i hi.1]
theorem rg_t {ws : List Nat} {n : Nat} {gs : TGs} {ms : MGs} (h : RefGs N ws n gs ms) : RefG N ws (gTup N.C.K n gs) (gT ms) := fun env σ Z H F Fv d v Q env' o r rv e k => by
  cases d with
  | tup ds =>
    rw [RdV] at rv
    obtain ⟨rfl, a, vs, rfl, h1, h2⟩ := rv
    have o1 : Ok N.C.T Z H F := by simpa using o
    refine ⟨a, vs, rfl, Same.seqT o1.zh h1, by rw [← h2.length]; exact h.len ds env env' e, ?_⟩
    exact h.run env σ Z H F ds vs Q env' o1 r h2 e fun σ' F' g1 g2 g3 g4 => k σ' F' g1 (fun a ha => by simpa using g2 a ha) g3 g4
  | _ => cases e
def gOk (ws pin : List Nat) : Bool := pin.all fun i => !ws.contains i
def sAsg (g : MG) (m : ME) : MS := fun env => (m env).bind fun d e => match g d e with | some e' => .ok .nx e' | none => .no
theorem rs_asg {st : Bool} {ws : List Nat} {t : TE} {g : TG} {m : ME} {mg : MG} (h : RefE N st t m) (hg : RefG N ws g mg) (hp : gOk ws N.pin = true) : RefS N (tAsg t g) (sAsg mg m) := fun env σ Z H F D0 o r w => by
  refine h env σ Z H F _ o r (w.bind.mono (Pin.refl _ _) (Ext.refl o) ?_)
  intro d env1 k v Z1 H1 Fv F1 x rv r1 _
  cases q : mg d env1 with
  | none => rw [q] at k; exact k.elim
  | some env2 =>
    rw [q] at k
    refine hg env1 σ Z1 H1 F1 Fv d v _ env2 x.ok r1 rv q fun σ2 F2 h1 h2 h3 h4 => ?_
    refine k σ2 Z1 H1 F2 ⟨h3.1, fun i hi => h3.2 i fun z => ?_⟩ (x.sub h1 h2) h4
    have := List.all_eq_true.mp hp i hi
    simp [z] at this
def sPar (i j : Nat) (m : ML) : MS := fun env => (m env).bind fun ds e => match ds with | [d1, d2] => .ok .nx ((e.set i (some d1)).set j (some d2)) | _ => .no
theorem rs_par {st : Bool} {i j : Nat} {t : TA} {m : ML} (h : RefA N st t m) (hp : gOk [i, j] N.pin = true) : RefS N (tPar i j t) (sPar i j m) := fun env σ Z H F D0 o r w => by
  refine h env σ Z H F _ o r (w.bind.mono (Pin.refl _ _) (Ext.refl o) ?_)
  intro ds env1 k vs Z1 H1 Fv F1 x rv r1 _
  match ds, rv, k with
  | [], _, k => exact k.elim
  | [_], _, k => exact k.elim
  | _ :: _ :: _ :: _, _, k => exact k.elim
  | [d1, d2], rv, k =>
    rw [RdL, ] at rv
    obtain ⟨v1, r1', G1, G2, rfl, rfl, rv1, rv2⟩ := rv
    rw [RdL] at rv2
    obtain ⟨v2, r2', G3, G4, rfl, rfl, rv2, rv3⟩ := rv2
    rw [RdL] at rv3
    obtain ⟨rfl, rfl⟩ := rv3
    refine ⟨v1, v2, rfl, ?_⟩
    have o1 := x.ok
    simp only [List.append_nil, List.append_assoc] at o1
    have oA : Ok N.C.T Z1 H1 (G1 ++ F1) := o1.sub (by
      refine List.nodup_append.mpr ⟨nodup_left o1.nd, nodup_right (nodup_right o1.nd), fun a ha b hb e => ?_⟩
      subst e
      exact o1.disj a ha (List.mem_append_right _ hb)) (fun a ha => by
      rcases List.mem_append.mp ha with z | z
      · exact List.mem_append_left _ z
      · exact List.mem_append_right _ (List.mem_append_right _ z))
    obtain ⟨F2, h1, h2, h3⟩ := rd_set (i := i) oA r1 rv1
    have oB : Ok N.C.T Z1 H1 (G3 ++ F2) := o1.sub (by
      refine List.nodup_append.mpr ⟨nodup_left (nodup_right o1.nd), h1, fun a ha b hb e => ?_⟩
      subst e
      rcases List.mem_append.mp (h2 a hb) with z | z
      · exact o1.disj a z (List.mem_append_left _ ha)
      · exact o1.split.disj a ha z) (fun a ha => by
      rcases List.mem_append.mp ha with z | z
      · exact List.mem_append_right _ (List.mem_append_left _ z)
      · rcases List.mem_append.mp (h2 a z) with z | z
        · exact List.mem_append_left _ z
        · exact List.mem_append_right _ (List.mem_append_right _ z))
    obtain ⟨F3, g1, g2, g3⟩ := rd_set (i := j) oB h3 rv2
    refine k _ Z1 H1 F3 ⟨by rw [List.length_set, List.length_set], fun l hl => ?_⟩ (x.sub g1 fun a ha => ?_) g3
    · have := List.all_eq_true.mp hp l hl
      simp only [List.contains_cons, List.contains_nil, Bool.or_false, Bool.not_eq_true', Bool.or_eq_false_iff, beq_eq_false_iff_ne] at this
      rw [List.getElem?_set_ne (Ne.symm this.2), List.getElem?_set_ne (Ne.symm this.1)]
    · simp only [List.append_nil, List.append_assoc]
      rcases List.mem_append.mp (g2 a ha) with z | z
      · exact List.mem_append_right _ (List.mem_append_left _ z)
      · rcases List.mem_append.mp (h2 a z) with z | z
        · exact List.mem_append_left _ z
        · exact List.mem_append_right _ (List.mem_append_right _ z)
/-- x op= e, on flat values -/
def sAug (i : Nat) (f : D → D → Option D) (m : ME) : MS := fun env => match env[i]? with
  | some (some d) => (m env).bind fun d' e => match f d d' with | some r => .ok .nx (e.set i (some r)) | none => .no
  | _ => .no
/-! ### while -/
def whileF (c : MB) (m : MS) : Nat → Env → R Fl
  | 0, _ => .no
  | n + 1, env => (c env).bind fun b e => if b then (m e).bind fun fl e => match fl with
      | .nx => whileF c m n e
      | .ct => whileF c m n e
      | .bk => .ok .nx e
      | .rt d => .ok (.rt d) e
    else .ok .nx e
open Classical in
noncomputable def sWhile (c : MB) (m : MS) : MS := fun env => if h : ∃ n, whileF c m n env ≠ .no then whileF c m h.choose env else .no
theorem rs_while {st : Bool} {c : TT} {t : TS} {b : MB} {m : MS} (hc : RefB N st c b) (h : RefS N t m) : RefS N (tWhile c t) (sWhile b m) := fun env σ Z H F D0 o r w => by
  unfold sWhile at w
  split at w
  · rename_i hn
    generalize hn.choose = n at w
    refine ⟨fun k σ1 H1 => ∃ env1 Z1 F1, Pin N.pin σ σ1 ∧ Ext N.C.T Z H F Z1 H1 F1 ∧ RdE N.C Z1 H1 env1 σ1 F1 ∧ Wp N σ1 Z1 H1 F1 (whileF b m k env1) (Aft N σ1 Z1 H1 F1 D0),
      ⟨n, env, Z, F, Pin.refl _ _, Ext.refl o, r, w⟩, ?_⟩
    rintro k σ1 H1 ⟨env1, Z1, F1, p1, x1, r1, w1⟩
    cases k with
    | zero => exact w1.elim
    | succ k =>
      refine hc env1 σ1 Z1 H1 F1 _ x1.ok r1 ((Wp.bind w1).mono (Pin.refl _ _) (Ext.refl x1.ok) ?_)
      intro bb env2 k2 Z2 H2 F2 x2 r2 _
      cases bb with
      | false =>
        rw [if_neg Bool.false_ne_true]
        exact k2 σ1 Z2 H2 F2 (Pin.refl _ _) x2 r2
      | true =>
        rw [if_pos rfl]
        refine ⟨fun σ' H' => ∃ env1 Z1 F1, Pin N.pin σ σ' ∧ Ext N.C.T Z H F Z1 H' F1 ∧ RdE N.C Z1 H' env1 σ' F1 ∧ Wp N σ' Z1 H' F1 (whileF b m k env1) (Aft N σ' Z1 H' F1 D0), fun σ' H' hh => ⟨k, Nat.lt_succ_self k, hh⟩, ?_⟩
        have k3 := Wp.mono (Wp.bind k2) (Pin.refl _ _) x2 (fun _ _ z => z)
        refine h env2 σ1 Z2 H2 F2 _ x2.ok r2 (k3.mono (Pin.refl _ _) (Ext.refl x2.ok) ?_)
        intro fl env3 k4
        cases fl with
        | nx =>
          intro σ3 Z3 H3 F3 p3 x3 r3
          exact ⟨env3, Z3, F3, p1.trans p3, (x1.trans x2).trans x3, r3, Wp.mono k4 p3 (x2.trans x3) fun fl e z => z.trans p3 (x2.trans x3)⟩
        | ct =>
          intro σ3 Z3 H3 F3 p3 x3 r3
          exact ⟨env3, Z3, F3, p1.trans p3, (x1.trans x2).trans x3, r3, Wp.mono k4 p3 (x2.trans x3) fun fl e z => z.trans p3 (x2.trans x3)⟩
        | bk =>
          intro σ3 Z3 H3 F3 p3 x3 r3
          exact k4 σ3 Z3 H3 F3 p3 (x2.trans x3) r3
        | rt d =>
          intro σ3 v Z3 H3 Fv F3 p3 x3 rv r3
          exact k4 σ3 v Z3 H3 Fv F3 p3 (x2.trans x3) rv r3
  · exact w.elim
/-! ### what is walked -/
/-- what comes at turn i -/
def YD (C : Ct) (Z : Hp) (ds : List D) (i : Nat) (H : Hp) (x : V) (H' : Hp) : Prop := ∃ d, ds[i]? = some d ∧
  ((H' = H ∧ RdV C Z H d x []) ∨ ∃ T us dd, x = .ref T ∧ H T = none ∧ H' = upd H T (.tup us) ∧ d = .tup dd ∧ RdL C Z H dd us [])
abbrev MI := Env → R (List D)
def RefI (N : Cn) (wi : TI) (m : MI) : Prop := ∀ env σ Z H F (Rr : It → Hp → Prop), Ok N.C.T Z H F → RdE N.C Z H env σ F →
  Wp N σ Z H F (m env) (fun ds env' => ∀ J Z' H' F', Ext N.C.T Z H F Z' H' F' → RdE N.C Z' H' env' σ F' → Walk J ds.length (fun H => Same Z' H) (YD N.C Z' ds) → Rr J H') → wi σ H Rr
/-- from the start again with things that stay -/
theorem YD.state {ds : List D} {i : Nat} {x : V} {env : Env} (y : YD C Z ds i H1 x H') (sz : Same Z Z1) (o : Ok C.T Z1 H1 F) (r : RdE C Z1 H1 env σ F) :
    ∃ d Z2, ds[i]? = some d ∧ Ext C.T Z1 H1 F Z2 H' F ∧ RdV C Z2 H' d x [] ∧ RdE C Z2 H' env σ F ∧ Same H1 H' := by
  obtain ⟨d, e, h | ⟨T, us, dd, rfl, hT, rfl, rfl, h⟩⟩ := y
  · obtain ⟨rfl, h⟩ := h
    exact ⟨d, Z1, e, Ext.refl o, h.frozen sz _, r, Same.refl _⟩
  · have x := Ext.newZ (o := .tup us) o hT
    refine ⟨_, _, e, x, ?_, r.same x.zz (same_new hT), same_new hT⟩
    rw [RdV]
    exact ⟨rfl, T, us, rfl, sqT_of upd_same, h.frozen (sz.trans x.zz) _⟩
def forL (g : MG) (m : MS) : List D → Env → R Fl
  | [], env => .ok .nx env
  | d :: ds, env => match g d env with
    | none => .no
    | some e => (m e).bind fun fl e => match fl with
      | .nx => forL g m ds e
      | .ct => forL g m ds e
      | .bk => .ok .nx e
      | .rt d => .ok (.rt d) e
def sFor (it : MI) (g : MG) (m : MS) : MS := fun env => (it env).bind fun ds e => forL g m ds e
theorem rs_for {ws : List Nat} {wi : TI} {it : MI} {g : TG} {mg : MG} {t : TS} {m : MS} (hi : RefI N wi it) (hg : RefG N ws g mg) (h : RefS N t m) (hp : gOk ws N.pin = true) : RefS N (tFor wi g t) (sFor it mg m) := fun env σ Z H F D0 o r w => by
  refine hi env σ Z H F _ o r (w.bind.mono (Pin.refl _ _) (Ext.refl o) ?_)
  intro ds env1 k J Z1 H1 F1 x1 r1 wk
  refine for_it wk (fun i σ2 H2 => ∃ env2 Z2 F2, Pin N.pin σ σ2 ∧ Ext N.C.T Z1 H1 F1 Z2 H2 F2 ∧ RdE N.C Z2 H2 env2 σ2 F2 ∧ Wp N σ2 Z2 H2 F2 (forL mg m (ds.drop i) env2) (Aft N σ2 Z2 H2 F2 D0)) ?_ ?_ ?_ ?_
  · exact ⟨env1, Z1, F1, Pin.refl _ _, Ext.refl x1.ok, r1, Wp.mono k (Pin.refl _ _) x1 fun fl e z => z.trans (Pin.refl _ _) x1⟩
  · rintro i σ2 H2 _ ⟨env2, Z2, F2, p2, x2, r2, _⟩
    exact x2.zz.trans x2.ok.zh
  · rintro i xv σ2 H2 H3 hi ⟨env2, Z2, F2, p2, x2, r2, w2⟩ y
    obtain ⟨d, Z3, ed, x3, rv, r3, _⟩ := y.state x2.zz x2.ok r2
    have hl : i < ds.length := hi
    have e2 : ds.drop i = d :: ds.drop (i + 1) := by
      rw [List.drop_eq_getElem_cons hl]
      congr 1
      rw [List.getElem?_eq_getElem hl] at ed
      exact Option.some.inj ed
    rw [e2, forL] at w2
    cases q : mg d env2 with
    | none => rw [q] at w2; exact w2.elim
    | some env3 =>
      rw [q] at w2
      refine hg env2 σ2 Z3 H3 F2 [] d xv _ env3 (by simpa using x3.ok) r3 rv q fun σ4 F4 h1 h2 h3 h4 => ?_
      have p4 : Pin N.pin σ2 σ4 := ⟨h3.1, fun l hl => h3.2 l fun z => by
        have := List.all_eq_true.mp hp l hl
        simp [z] at this⟩
      have x4 : Ext N.C.T Z2 H2 F2 Z3 H3 F4 := x3.sub h1 fun a ha => by simpa using h2 a ha
      refine h env3 σ4 Z3 H3 F4 _ x4.ok h4 ((Wp.mono (Wp.bind w2) p4 x4 fun _ _ z => z).mono (Pin.refl _ _) (Ext.refl x4.ok) ?_)
      intro fl env5 k5
      cases fl with
      | nx =>
        intro σ5 Z5 H5 F5 p5 x5 r5
        exact ⟨env5, Z5, F5, (p2.trans p4).trans p5, (x2.trans x4).trans x5, r5, Wp.mono k5 (p4.trans p5) (x4.trans x5) fun fl e z => z.trans (p4.trans p5) (x4.trans x5)⟩
      | ct =>
        intro σ5 Z5 H5 F5 p5 x5 r5
        exact ⟨env5, Z5, F5, (p2.trans p4).trans p5, (x2.trans x4).trans x5, r5, Wp.mono k5 (p4.trans p5) (x4.trans x5) fun fl e z => z.trans (p4.trans p5) (x4.trans x5)⟩
      | bk =>
        intro σ5 Z5 H5 F5 p5 x5 r5
        exact k5 σ5 Z5 H5 F5 (p4.trans p5) (x4.trans x5) r5
      | rt d =>
        intro σ5 v Z5 H5 Fv F5 p5 x5 rv r5
        exact k5 σ5 v Z5 H5 Fv F5 (p4.trans p5) (x4.trans x5) rv r5
  · rintro σ2 H2 ⟨env2, Z2, F2, p2, x2, r2, w2⟩
    rw [List.drop_length] at w2
    exact w2 σ2 Z2 H2 F2 (Pin.refl _ _) (Ext.refl x2.ok) r2
end
end Mi
set_option maxHeartbeats 4000000
namespace Mi
open PySem PySem.Spec PyProof.Rows L2 RZ Ov
section
variable {N : Cn} {C : Ct} {Z H Z' H' Z1 H1 : Hp} {F F' G Fv F1 : List Addr} {σ σ1 : L2.St}
/-! ### what is walked -/
theorem RdL.get : ∀ {ds : List D} {vs : List V} {i : Nat}, RdL C Z H ds vs [] → i < ds.length → ∃ d v, ds[i]? = some d ∧ vs[i]? = some v ∧ RdV C Z H d v []
  | [], _, i, _, h => by simp at h
  | d :: ds, _, i, h, hi => by
    rw [RdL] at h
    obtain ⟨v, r, F1, F2, rfl, hF, h3, h4⟩ := h
    obtain ⟨rfl, rfl⟩ : F1 = [] ∧ F2 = [] := by simpa using hF.symm
    cases i with
    | zero => exact ⟨d, v, rfl, rfl, h3⟩
    | succ i =>
      obtain ⟨d', v', e1, e2, e3⟩ := RdL.get (i := i) h4 (by simpa using hi)
      exact ⟨d', v', by simpa using e1, by simpa using e2, e3⟩
/-- a list or tuple, by its items -/
def seqD : D → Option (List D)
  | .tup ds => some ds
  | .lst _ ds => some ds
  | .scr ds => some ds
  | _ => none
def iSeq (m : ME) : MI := fun env => (m env).bind fun d e => match seqD (fz d) with | some ds => .ok ds e | none => .no
def iSeqU (K : PySem.W.Frag) (tl : TE) : TI := fun σ H R => tl σ H fun x H1 => ∃ a, x = .ref a ∧ (((∃ xs, SqL K H1 a xs) ∧ R (Itl K a) H1) ∨ ((∃ xs, SqT K H1 a xs) ∧ R (Itt K a) H1))
theorem RefE.freeze {st : Bool} {t : TE} {m : ME} (h : RefE N st t m) : ∀ env σ Z H F Q, Ok N.C.T Z H F → RdE N.C Z H env σ F →
  Wp N σ Z H F (m env) (fun d env' => ∀ v Z' H' F', Ext N.C.T Z H F Z' H' F' → RdV N.C Z' H' (fz d) v [] → RdE N.C Z' H' env' σ F' → (st = true → Same H H') → Q v H') → t σ H Q := fun env σ Z H F Q o r w => by
  refine h env σ Z H F _ o r (w.mono (Pin.refl _ _) (Ext.refl o) ?_)
  intro d env1 k v Z1 H1 Fv F1 x rv r1 s1
  have y := Ext.freeze x.ok
  exact k v _ H1 F1 (x.trans y) (RdV.freeze (fun a ha => x.ok.zf a (List.mem_append_left _ ha)) d v Fv (fun a ha => ha) rv) (r1.same y.zz (Same.refl _)) s1
theorem walk_L {ds : List D} {vs : List V} {a : Addr} (h : SqL C.K Z a vs) (r : RdL C Z H ds vs []) : Walk (Itl C.K a) ds.length (fun H => Same Z H) (YD C Z ds) := by
  have w := walk_list (K := C.K) (a := a) (xs := vs)
  rw [← r.length] at w
  refine w.mono (fun H s => s.seq h) ?_
  rintro i H2 x H3 hi _ ⟨rfl, e⟩
  obtain ⟨d, v, e1, e2, e3⟩ := r.get hi
  rw [e] at e2
  cases e2
  exact ⟨d, e1, .inl ⟨rfl, e3.frozen (Same.refl _) _⟩⟩
theorem walk_T {ds : List D} {vs : List V} {a : Addr} (h : SqT C.K Z a vs) (r : RdL C Z H ds vs []) : Walk (Itt C.K a) ds.length (fun H => Same Z H) (YD C Z ds) := by
  have w := walk_tup (K := C.K) (a := a) (xs := vs)
  rw [← r.length] at w
  refine w.mono (fun H s => Same.seqT s h) ?_
  rintro i H2 x H3 hi _ ⟨rfl, e⟩
  obtain ⟨d, v, e1, e2, e3⟩ := r.get hi
  rw [e] at e2
  cases e2
  exact ⟨d, e1, .inl ⟨rfl, e3.frozen (Same.refl _) _⟩⟩
theorem ri_seq {st : Bool} {t : TE} {m : ME} (h : RefE N st t m) : RefI N (iSeqU N.C.K t) (iSeq m) := fun env σ Z H F Rr o r w => by
  refine h.freeze env σ Z H F _ o r (w.bind.mono (Pin.refl _ _) (Ext.refl o) ?_)
  intro d env1 k v Z1 H1 F1 x rv r1 _
  cases e : fz d with
  | tup ds =>
    rw [e] at rv k
    rw [RdV] at rv
    obtain ⟨_, a, vs, rfl, h1, h2⟩ := rv
    exact ⟨a, rfl, .inr ⟨⟨vs, Same.seqT x.ok.zh h1⟩, k _ Z1 H1 F1 x r1 (walk_T h1 h2)⟩⟩
  | lst o2 ds =>
    cases o2 with
    | false =>
      rw [e] at rv k
      rw [RdV] at rv
      obtain ⟨_, a, vs, rfl, h1, h2⟩ := rv
      exact ⟨a, rfl, .inl ⟨⟨vs, sqL_of (x.ok.zh _ _ h1)⟩, k _ Z1 H1 F1 x r1 (walk_L (sqL_of h1) h2)⟩⟩
    | true => exfalso; cases d <;> simp [fz] at e
  | scr ds =>
    rw [e] at rv k
    rw [RdV] at rv
    obtain ⟨_, a, vs, rfl, h1, h2⟩ := rv
    exact ⟨a, rfl, .inl ⟨⟨vs, x.ok.zh.seq h1⟩, k _ Z1 H1 F1 x r1 (walk_L h1 h2)⟩⟩
  | _ => rw [e] at k; exact k.elim
/-- range -/
theorem RdA.one {d : D} {vs : List V} (h : RdA C Z H [d] vs) : ∃ v F, vs = [v] ∧ RdV C Z H d v F := by
  obtain ⟨v, r, F, rfl, h1, h2⟩ := h
  exact ⟨v, F, by rw [show r = [] from h2], h1⟩
theorem RdA.two {d e : D} {vs : List V} (h : RdA C Z H [d, e] vs) : ∃ v F w G, vs = [v, w] ∧ RdV C Z H d v F ∧ RdV C Z H e w G := by
  obtain ⟨v, r, F, rfl, h1, h2⟩ := h
  obtain ⟨w, G, rfl, h3⟩ := RdA.one h2
  exact ⟨v, F, w, G, rfl, h1, h3⟩
def rng1 : List D → Option (List D)
  | [.int j] => if -(2 ^ 62) ≤ j ∧ j < 2 ^ 62 then some ((List.range j.toNat).map fun k : Nat => .int (k : Int)) else none
  | _ => none
def iOf (f : List D → Option (List D)) (m : ML) : MI := fun env => (m env).bind fun ds e => match f ds with | some r => .ok r e | none => .no
theorem walk_fn {J : It} {n : Nat} {f : Nat → Int} (w : Walk J n (fun _ => True) (YFn fun i => .int (f i))) : Walk J ((List.range n).map fun k => D.int (f k)).length (fun H => Same Z H) (YD C Z ((List.range n).map fun k => D.int (f k))) := by
  rw [List.length_map, List.length_range]
  refine w.mono (fun _ _ => trivial) ?_
  rintro i H2 x H3 hi _ ⟨rfl, rfl⟩
  exact ⟨.int (f i), by simp [hi], .inl ⟨rfl, rd_int⟩⟩
theorem ri_of {st : Bool} {t : TA} {m : ML} {f : List D → Option (List D)} {wi : TA → TI} (h : RefTA N st t m)
    (hw : ∀ ds vs Z H F items (Rr : It → Hp → Prop), Ok N.C.T Z H F → RdA N.C Z H ds vs → f ds = some items → (∀ J, Walk J items.length (fun H => Same Z H) (YD N.C Z items) → Rr J H) → ∀ σ, wi (fun _ H Q => Q vs H) σ H Rr)
    (hm : ∀ σ H Rr, (t σ H fun vs H1 => wi (fun _ H Q => Q vs H) σ H1 Rr) → wi t σ H Rr) : RefI N (wi t) (iOf f m) := fun env σ Z H F Rr o r w => by
  refine hm σ H Rr (h env σ Z H F _ o r (w.bind.mono (Pin.refl _ _) (Ext.refl o) ?_))
  intro ds env1 k vs Z1 H1 F1 x rv r1 _
  cases q : f ds with
  | none => rw [q] at k; exact k.elim
  | some items =>
    rw [q] at k
    exact hw ds vs Z1 H1 F1 items Rr x.ok rv q (fun J wk => k J Z1 H1 F1 x r1 wk) σ
theorem ri_rng1 {st : Bool} {t : TA} {m : ML} (h : RefTA N st t m) : RefI N (iRng1 t) (iOf rng1 m) := by
  refine ri_of h ?_ fun _ _ _ h => h
  intro ds vs Z H F items Rr o rv e k σ
  unfold rng1 at e
  split at e
  · rename_i j
    split at e
    · rename_i q
      cases e
      obtain ⟨v, Fd, rfl, h1⟩ := rv.one
      rw [RdV] at h1
      obtain ⟨rfl, rfl⟩ := h1
      refine ⟨j, rfl, q.1, q.2, k _ ?_⟩
      have w := walk_range (lo := 0) (n := j.toNat)
      have e : (fun i : Nat => V.int (0 + (i : Int))) = fun i : Nat => V.int (i : Int) := by funext i; simp
      rw [e] at w
      exact walk_fn w
    · cases e
  · cases e
/-- zip of two lists or two tuples that hold no owned node -/
def zipD : List D → Option (List D)
  | [.tup a, .tup b] => some (List.zipWith (fun x y => .tup [x, y]) a b)
  | [.lst false a, .lst false b] => some (List.zipWith (fun x y => .tup [x, y]) a b)
  | _ => none
theorem walk_pair {J : It} {n : Nat} {a b : List D} {xs ys : List V} {G : Hp → Prop} (w : Walk J n G (YPair (fun i => xs[i]?) (fun i => ys[i]?))) (hn : n = min a.length b.length) (hG : ∀ H, Same Z H → G H) (ra : RdL C Z H a xs []) (rb : RdL C Z H b ys []) :
    Walk J (List.zipWith (fun x y => D.tup [x, y]) a b).length (fun H => Same Z H) (YD C Z (List.zipWith (fun x y => D.tup [x, y]) a b)) := by
  rw [List.length_zipWith, ← hn]
  refine w.mono hG ?_
  rintro i H2 x H3 hi _ ⟨T, x1, y1, rfl, h2, rfl, h3, h4⟩
  have i1 : i < a.length := by omega
  have i2 : i < b.length := by omega
  obtain ⟨d, v, e1, e2, e3⟩ := ra.get i1
  obtain ⟨d', v', g1, g2, g3⟩ := rb.get i2
  have h3 : xs[i]? = some x1 := h3
  have h4 : ys[i]? = some y1 := h4
  rw [e2] at h3; cases h3
  rw [g2] at h4; cases h4
  refine ⟨.tup [d, d'], by simp [List.getElem?_zipWith, e1, g1], .inr ⟨T, [x1, y1], [d, d'], rfl, h2, rfl, rfl, ?_⟩⟩
  exact ⟨x1, [y1], [], [], rfl, rfl, e3.frozen (Same.refl _) _, y1, [], [], [], rfl, rfl, g3.frozen (Same.refl _) _, rfl, rfl⟩
theorem ri_zip {st : Bool} {t : TA} {m : ML} (h : RefTA N st t m) : RefI N (iZipA N.C.K t) (iOf zipD m) := by
  refine ri_of (wi := iZipA N.C.K) h ?_ fun _ _ _ h => h
  intro ds vs Z H F items Rr o rv e k σ
  unfold zipD at e
  split at e
  · rename_i a b
    cases e
    obtain ⟨v, Fd, w, G, rfl, h1, h2⟩ := rv.two
    rw [RdV] at h1 h2
    obtain ⟨_, p, xs, rfl, p1, p2⟩ := h1
    obtain ⟨_, q, ys, rfl, q1, q2⟩ := h2
    refine ⟨p, q, xs, ys, rfl, .inr ⟨Same.seqT o.zh p1, Same.seqT o.zh q1, k _ ?_⟩⟩
    exact walk_pair (walk_zipT (K := N.C.K) (a := p) (b := q) rfl) (by rw [p2.length, q2.length]) (fun H s => ⟨Same.seqT s p1, Same.seqT s q1⟩) p2 q2
  · rename_i a b
    cases e
    obtain ⟨v, Fd, w, G, rfl, h1, h2⟩ := rv.two
    rw [RdV] at h1 h2
    obtain ⟨_, p, xs, rfl, p1, p2⟩ := h1
    obtain ⟨_, q, ys, rfl, q1, q2⟩ := h2
    replace p1 := sqL_of (K := N.C.K) p1; replace q1 := sqL_of (K := N.C.K) q1
    refine ⟨p, q, xs, ys, rfl, .inl ⟨o.zh.seq p1, o.zh.seq q1, k _ ?_⟩⟩
    exact walk_pair (walk_zip (K := N.C.K) (a := p) (b := q) rfl) (by rw [p2.length, q2.length]) (fun H s => ⟨s.seq p1, s.seq q1⟩) p2 q2
  · cases e
/-- enumerate of a list that holds no owned node -/
def enumD : List D → Option (List D)
  | [.lst false a] => some ((List.range a.length).zipWith (fun (i : Nat) x => .tup [.int (i : Int), x]) a)
  | _ => none
theorem ri_enum {st : Bool} {t : TA} {m : ML} (h : RefTA N st t m) : RefI N (iEnum N.C.K t) (iOf enumD m) := by
  refine ri_of (wi := iEnum N.C.K) h ?_ fun _ _ _ h => h
  intro ds vs Z H F items Rr o rv e k σ
  unfold enumD at e
  split at e
  · rename_i a
    cases e
    obtain ⟨v, Fd, rfl, h1⟩ := rv.one
    rw [RdV] at h1
    obtain ⟨_, p, xs, rfl, p1, p2⟩ := h1
    replace p1 := sqL_of (K := N.C.K) p1
    refine ⟨p, xs, rfl, o.zh.seq p1, k _ ?_⟩
    rw [List.length_zipWith, List.length_range, Nat.min_self]
    have w := walk_enum (K := N.C.K) (a := p) (xs := xs)
    rw [← p2.length] at w
    refine w.mono (fun H s => s.seq p1) ?_
    rintro i H2 x H3 hi _ ⟨T, x1, y1, rfl, h2, rfl, h3, h4⟩
    obtain ⟨d, v, e1, e2, e3⟩ := p2.get hi
    have h4 : xs[i]? = some y1 := h4
    have h3 : some (V.int (i : Int)) = some x1 := h3
    cases h3
    rw [e2] at h4; cases h4
    refine ⟨.tup [.int (i : Int), d], by rw [List.getElem?_zipWith, e1, List.getElem?_range hi], .inr ⟨T, [.int (i : Int), y1], [.int (i : Int), d], rfl, h2, rfl, rfl, ?_⟩⟩
    exact ⟨.int (i : Int), [y1], [], [], rfl, rfl, rd_int, y1, [], [], [], rfl, rfl, e3.frozen (Same.refl _) _, rfl, rfl⟩
  · cases e
/-- the signs of a text -/
def iStrD (m : ME) : MI := fun env => (m env).bind fun d e => match d with | .str x => .ok (x.cps.toList.map fun c => .str ⟨#[c]⟩) e | _ => .no
theorem ri_str {st : Bool} {t : TE} {m : ME} (h : RefT N st t m) : RefI N (iStr t) (iStrD m) := fun env σ Z H F Rr o r w => by
  refine h env σ Z H F _ o r (w.bind.mono (Pin.refl _ _) (Ext.refl o) ?_)
  intro d env1 k v Z1 H1 Fd F1 x rv r1 _
  cases d with
  | str z =>
    rw [RdV] at rv
    obtain ⟨rfl, rfl⟩ := rv
    refine ⟨z, rfl, k _ Z1 H1 F1 x r1 ?_⟩
    rw [List.length_map, Array.length_toList]
    refine (walk_str (z := z)).mono (fun _ _ => trivial) ?_
    rintro i H2 xv H3 hi _ ⟨rfl, c, e, rfl⟩
    refine ⟨.str ⟨#[c]⟩, ?_, .inl ⟨rfl, rd_str⟩⟩
    rw [List.getElem?_map, Array.getElem?_toList, e]
    rfl
  | _ => exact k.elim
/-! ### comprehensions -/
def R.bind0 {α β : Type} (r : R α) (f : α → Env → R β) : R β :=
  match r with
  | .ok a e => f a e
  | _ => .no
@[simp] theorem R.bind0_ok {α β : Type} {a : α} {e : Env} {f : α → Env → R β} : (R.ok a e).bind0 f = f a e := rfl
def wipeE (env : Env) : List Nat → Env
  | [] => env
  | v :: vs => (wipeE env vs).set v none
def lcF (g : MG) (c : MB) (m : ME) (ws : List Nat) : List D → List D → Env → R (List D)
  | [], acc, env => .ok acc env
  | d :: ds, acc, env => match g d env with
    | none => .no
    | some e => (c e).bind0 fun b e => if b then (m e).bind0 fun y e => if acc.length < sizeLine then lcF g c m ws ds (acc ++ [y]) (wipeE e ws) else .no
      else lcF g c m ws ds acc (wipeE e ws)
def eLc (it : MI) (g : MG) (c : MB) (m : ME) (ws : List Nat) : ME := fun env => (it env).bind fun ds e => (lcF g c m ws ds [] (wipeE e ws)).bind0 fun r e => .ok (.lst true r) e
def bYes : MB := fun env => .ok true env
theorem rb_yes : RefB N true tYes bYes := fun env σ Z H F Q o r w => w Z H F (Ext.refl o) r fun _ => Same.refl _
theorem wipe_get {σ : L2.St} : ∀ {ws : List Nat} {i : Nat}, i ∉ ws → (wipe σ ws)[i]? = σ[i]?
  | [], i, _ => rfl
  | w :: ws, i, h => by
    rw [List.mem_cons, not_or] at h
    rw [wipe, List.getElem?_set_ne (Ne.symm h.1), wipe_get h.2]
theorem RdE.other : ∀ {env : Env} {σ σ' : L2.St} {F : List Addr}, RdE C Z H env σ F → σ'.length = σ.length → (∀ i : Nat, ((env[i]?).join).isSome → σ'[i]? = σ[i]?) → RdE C Z H env σ' F
  | [], σ, σ', F, h, l, _ => by
    obtain ⟨rfl, rfl⟩ := h
    exact ⟨List.eq_nil_of_length_eq_zero l, rfl⟩
  | none :: e, σ, σ', F, h, l, k => by
    obtain ⟨x, s, rfl, h⟩ := h
    cases σ' with
    | nil => simp at l
    | cons y s' => exact ⟨y, s', rfl, RdE.other h (by simpa using l) fun i hi => by simpa using k (i + 1) (by simpa using hi)⟩
  | some d :: e, σ, σ', F, h, l, k => by
    obtain ⟨v, s, F1, F2, rfl, rfl, rv, h⟩ := h
    cases σ' with
    | nil => simp at l
    | cons y s' =>
      have : y = some v := by simpa using k 0 rfl
      subst this
      exact ⟨v, s', F1, F2, rfl, rfl, rv, RdE.other h (by simpa using l) fun i hi => by simpa using k (i + 1) (by simpa using hi)⟩
theorem RdE.wipe' : ∀ {ws : List Nat} {env : Env} {σ : L2.St} {F : List Addr}, RdE C Z H env σ F → ∃ F2, F2.Sublist F ∧ RdE C Z H (wipeE env ws) σ F2
  | [], env, σ, F, h => ⟨F, List.Sublist.refl _, h⟩
  | w :: ws, env, σ, F, h => by
    obtain ⟨F2, h1, h2⟩ := RdE.wipe' (ws := ws) h
    obtain ⟨F3, h3, h4⟩ := h2.drop w
    exact ⟨F3, h3.trans h1, h4⟩
theorem wipeE_none : ∀ {ws : List Nat} {env : Env} {i : Nat}, i ∈ ws → ¬ (((wipeE env ws)[i]?).join).isSome
  | w :: ws, env, i, h => by
    rw [wipeE]
    by_cases q : w = i
    · subst q
      rw [List.getElem?_set]
      rw [if_pos rfl]
      split <;> simp
    · rw [List.getElem?_set_ne q]
      exact wipeE_none ((List.mem_cons.mp h).resolve_left (Ne.symm q))
theorem wipe_len {σ : L2.St} : ∀ ws : List Nat, (wipe σ ws).length = σ.length
  | [] => rfl
  | w :: ws => by rw [wipe, List.length_set, wipe_len ws]
theorem wipe_eq {σ σ2 : L2.St} {ws : List Nat} (l : σ2.length = σ.length) (h : ∀ i, i ∉ ws → σ2[i]? = σ[i]?) : wipe σ2 ws = wipe σ ws := by
  refine List.ext_getElem? fun i => ?_
  by_cases q : i ∈ ws
  · have key : ∀ (τ : L2.St), (wipe τ ws)[i]? = if i < τ.length then some none else none := by
      intro τ
      induction ws with
      | nil => cases q
      | cons w ws ih =>
        rw [wipe]
        by_cases e : w = i
        · subst e
          rw [List.getElem?_set, if_pos rfl, wipe_len]
        · rw [List.getElem?_set_ne e]
          have q2 : i ∈ ws := (List.mem_cons.mp q).resolve_left (Ne.symm e)
          clear ih h
          induction ws with
          | nil => cases q2
          | cons w2 ws ih2 =>
            rw [wipe]
            by_cases e2 : w2 = i
            · subst e2
              rw [List.getElem?_set, if_pos rfl, wipe_len]
            · rw [List.getElem?_set_ne e2]
              exact ih2 (by simp [(List.mem_cons.mp q2).resolve_left (Ne.symm e2)]) ((List.mem_cons.mp q2).resolve_left (Ne.symm e2))
    rw [key, key, l]
  · rw [wipe_get q, wipe_get q, h i q]
/-- a name that no claim stands for may change -/
theorem RdE.wiped {ws : List Nat} {env : Env} {τ : L2.St} (h : RdE C Z H (wipeE env ws) σ F) (l : τ.length = σ.length) (e : ∀ i, i ∉ ws → τ[i]? = σ[i]?) : RdE C Z H (wipeE env ws) τ F :=
  h.other l fun i hi => e i fun z => wipeE_none z hi
theorem RdL.snoc : ∀ {ds : List D} {vs : List V} {F1 F2 : List Addr} {d : D} {v : V}, RdL C Z H ds vs F1 → RdV C Z H d v F2 → RdL C Z H (ds ++ [d]) (vs ++ [v]) (F1 ++ F2)
  | [], _, _, F2, d, v, h, r => by
    rw [RdL] at h
    obtain ⟨rfl, rfl⟩ := h
    exact ⟨v, [], F2, [], rfl, by simp, r, rfl, rfl⟩
  | e :: ds, _, _, F2, d, v, h, r => by
    rw [RdL] at h
    obtain ⟨u, r', G1, G2, rfl, rfl, h1, h2⟩ := h
    exact ⟨u, r' ++ [v], G1, G2 ++ F2, rfl, by simp, h1, RdL.snoc h2 r⟩
theorem RdV.mut {a : Addr} {o : HO} {d : D} {v : V} (h : RdV C Z H d v F) (n : a ∉ F) : RdV C Z (upd H a o) d v F :=
  RdV.mono (Same.refl _) d v F (fun b hb => upd_ne fun z : b = a => n (by rw [← z]; exact hb)) h
theorem RdL.mut {a : Addr} {o : HO} {d : List D} {v : List V} (h : RdL C Z H d v F) (n : a ∉ F) : RdL C Z (upd H a o) d v F :=
  RdL.mono (Same.refl _) d v F (fun b hb => upd_ne fun z : b = a => n (by rw [← z]; exact hb)) h
theorem RdE.mut {a : Addr} {o : HO} {env : Env} (h : RdE C Z H env σ F) (n : a ∉ F) : RdE C Z (upd H a o) env σ F :=
  RdE.mono (Same.refl _) (fun b hb => upd_ne fun z : b = a => n (by rw [← z]; exact hb)) h
theorem Ext.heldL {ds : List D} {vs : List V} (x : Ext C.T Z H F Z' H' F') (hd : ∀ a ∈ G, a ∉ F) (r : RdL C Z H ds vs G) : RdL C Z' H' ds vs G := by
  refine RdL.mono x.zz ds vs G (fun a ha => ?_) r
  obtain ⟨o, e, hn⟩ := RdL.nk ds vs G r a ha
  rw [x.keep a o e (hd a ha) hn.tb, e]
theorem Ext.at {a : Addr} {o : HO} (x : Ext Ω Z H F Z' H' F') (n : a ∉ F) (h : H a = some o) (nt : ∀ ps, o ≠ .tbl ps := by intro ps z; cases z) : H' a = some o := x.keep a o h n nt
def Cn.calm (N : Cn) : Cn := { N with px := none }
theorem Wp.calm {α : Type} {r : R α} {k : α → Env → Prop} (w : ∃ a e, r = .ok a e ∧ k a e) : Wp N σ Z H F r k := by
  obtain ⟨a, e, rfl, h⟩ := w
  exact h
theorem bind0_ok {α β : Type} {r : R α} {f : α → Env → R β} {b : β} {e : Env} (h : r.bind0 f = .ok b e) : ∃ a e1, r = .ok a e1 ∧ f a e1 = .ok b e := by
  cases r with
  | ok a e1 => exact ⟨a, e1, rfl, h⟩
  | ex => cases h
  | no => cases h
theorem re_lc {s1 s2 : Bool} {ws : List Nat} {wi : TI} {it : MI} {g : TG} {mg : MG} {tt : TT} {c : MB} {te : TE} {m : ME} (hi : RefI N wi it) (hg : RefG N.calm ws g mg) (hc : RefB N.calm s1 tt c) (he : RefE N.calm s2 te m) :
    RefE N false (tLc wi g tt te ws) (eLc it mg c m ws) := fun env σ Z H F Q o r w => by
  refine hi env σ Z H F _ o r (w.bind.mono (Pin.refl _ _) (Ext.refl o) ?_)
  intro ds env1 k J Z1 H1 F1 x1 r1 wk Dn hD
  cases hfin : lcF mg c m ws ds [] (wipeE env1 ws) with
  | ex => rw [hfin] at k; exact k.elim
  | no => rw [hfin] at k; exact k.elim
  | ok res envF =>
  rw [hfin] at k
  obtain ⟨F2, sF2, rF2⟩ := r1.wipe' (ws := ws)
  have xn := Ext.new (o := .lst []) x1.ok hD
  have x2 : Ext N.C.T Z1 H1 F1 Z1 (upd H1 Dn (.lst [])) ((Dn :: ([] : List Addr)) ++ F2) := xn.sub (by
    refine List.nodup_cons.mpr ⟨fun z => ?_, sF2.nodup x1.ok.nd⟩
    exact (List.nodup_cons.mp xn.ok.nd).1 (sF2.mem z)) fun a ha => by
      rcases List.mem_cons.mp ha with rfl | ha
      · exact List.mem_cons_self ..
      · exact List.mem_cons_of_mem _ (sF2.mem ha)
  refine lc_it wk (fun i H2 => ∃ e2 Z2 F2 acc vs Fa, Ext N.C.T Z1 H1 F1 Z2 H2 ((Dn :: Fa) ++ F2) ∧ RdE N.C Z2 H2 (wipeE e2 ws) (wipe σ ws) F2 ∧ H2 Dn = some (.lst vs) ∧ RdL N.C Z2 H2 acc vs Fa ∧
      lcF mg c m ws (ds.drop i) acc (wipeE e2 ws) = .ok res envF) ?_ ?_ ?_ ?_
  · refine ⟨env1, Z1, F2, [], [], [], x2, ?_, upd_same, ⟨rfl, rfl⟩, by simpa using hfin⟩
    refine RdE.wiped (σ := σ) ?_ (wipe_len ws) (fun i hi => wipe_get hi)
    exact rF2.same (Same.refl _) (same_new hD)
  · rintro i H2 _ ⟨e2, Z2, F2, acc, vs, Fa, x2, _⟩
    exact x2.zz.trans x2.ok.zh
  · rintro i xv H2 H3 hlt ⟨e2, Z2, F2, acc, vs, Fa, x2, r2, hDn, ra, hf⟩ y
    obtain ⟨d, Z3, ed, x3, rv, r3, _⟩ := y.state x2.zz x2.ok.split r2
    have hl : i < ds.length := hlt
    have e3 : ds.drop i = d :: ds.drop (i + 1) := by
      rw [List.drop_eq_getElem_cons hl]
      congr 1
      rw [List.getElem?_eq_getElem hl] at ed
      exact Option.some.inj ed
    rw [e3, lcF] at hf
    cases q : mg d (wipeE e2 ws) with
    | none => rw [q] at hf; cases hf
    | some env3 =>
      rw [q] at hf
      obtain ⟨b, env4, hb, hf⟩ := bind0_ok hf
      have y3 := x3.hold x2.ok
      refine hg (wipeE e2 ws) (wipe σ ws) Z3 H3 F2 [] d xv _ env3 (by have := x3.ok; rw [List.nil_append]; exact this) r3 rv q fun σ4 F4 h1 h2 h3 h4 => ⟨?_, ?_⟩
      · rw [wipe_eq (σ := wipe σ ws) h3.1 h3.2]
        exact wipe_eq (wipe_len ws) (fun i hi => wipe_get hi)
      have o4 : Ok N.C.T Z3 H3 ((Dn :: Fa) ++ F4) := y3.ok.sub (by
        refine List.nodup_append.mpr ⟨nodup_left y3.ok.nd, h1, fun a ha b hb e => ?_⟩
        subst e
        exact y3.ok.disj a ha (by simpa using h2 a hb)) fun a ha => by
          rcases List.mem_append.mp ha with z | z
          · exact List.mem_append_left _ z
          · exact List.mem_append_right _ (by simpa using h2 a z)
      have x4 : Ext N.C.T Z2 H2 ((Dn :: Fa) ++ F2) Z3 H3 ((Dn :: Fa) ++ F4) := y3.sub o4.nd fun a ha => by
        rcases List.mem_append.mp ha with z | z
        · exact List.mem_append_left _ z
        · exact List.mem_append_right _ (by simpa using h2 a z)
      refine hc env3 σ4 Z3 H3 F4 _ o4.split h4 (Wp.calm ⟨b, env4, hb, ?_⟩)
      intro Z5 H5 F5 x5 r5 _
      have y5 := x5.hold o4
      have D3 : H3 Dn = some (.lst vs) := x3.at (x2.ok.disj Dn (List.mem_cons_self ..)) hDn
      have D5 : H5 Dn = some (.lst vs) := x5.at (o4.disj Dn (List.mem_cons_self ..)) D3
      have ra3 : RdL N.C Z3 H3 acc vs Fa := x3.heldL (fun a ha => x2.ok.disj a (List.mem_cons_of_mem _ ha)) ra
      have ra5 : RdL N.C Z5 H5 acc vs Fa := x5.heldL (fun a ha => o4.disj a (List.mem_cons_of_mem _ ha)) ra3
      have rlen : ∀ {σx : L2.St}, σx.length = (wipe σ ws).length → (∀ i, i ∉ ws → σx[i]? = (wipe σ ws)[i]?) → True := fun _ _ => trivial
      cases b with
      | false =>
        rw [if_neg Bool.false_ne_true] at hf ⊢
        obtain ⟨F6, s6, r6⟩ := r5.wipe' (ws := ws)
        refine ⟨env4, Z5, F6, acc, vs, Fa, ?_, r6.wiped h3.1.symm (fun i hi => (h3.2 i hi).symm), D5, ra5, hf⟩
        refine ((x2.trans x4).trans y5).sub (List.nodup_append.mpr ⟨nodup_left y5.ok.nd, s6.nodup (nodup_right y5.ok.nd), fun a ha b hb e => ?_⟩) fun a ha => ?_
        · subst e
          exact y5.ok.disj a ha (s6.mem hb)
        · rcases List.mem_append.mp ha with z | z
          · exact List.mem_append_left _ z
          · exact List.mem_append_right _ (s6.mem z)
      | true =>
        rw [if_pos rfl] at hf ⊢
        obtain ⟨dy, env6, hy, hf⟩ := bind0_ok hf
        by_cases hz : acc.length < sizeLine
        · rw [if_pos hz] at hf
          refine he env4 σ4 Z5 H5 F5 _ y5.ok.split r5 (Wp.calm ⟨dy, env6, hy, ?_⟩)
          intro yv Z6 H6 Fy F6 x6 ry r6 _
          have y6 : Ext N.C.T Z5 H5 ((Dn :: Fa) ++ F5) Z6 H6 ((Dn :: Fa) ++ (Fy ++ F6)) := x6.hold y5.ok
          have D6 : H6 Dn = some (.lst vs) := x6.at (y5.ok.disj Dn (List.mem_cons_self ..)) D5
          have ra6 : RdL N.C Z6 H6 acc vs Fa := x6.heldL (fun a ha => y5.ok.disj a (List.mem_cons_of_mem _ ha)) ra5
          refine ⟨vs, D6, by rw [← ra6.length]; exact hz, ?_⟩
          obtain ⟨F7, s7, r7⟩ := r6.wipe' (ws := ws)
          have nd6 := y6.ok.nd
          have hDm : Dn ∈ (Dn :: Fa) ++ (Fy ++ F6) := by simp
          have x7 := Ext.mut (o := .lst (vs ++ [yv])) y6.ok hDm
          have hn : Dn ∉ Fa ∧ Dn ∉ Fy ∧ Dn ∉ F6 := by
            simp only [List.cons_append, List.nodup_cons, List.mem_append, not_or] at nd6
            exact ⟨nd6.1.1, nd6.1.2.1, nd6.1.2.2⟩
          refine ⟨env6, Z6, F7, acc ++ [dy], vs ++ [yv], Fa ++ Fy, ?_, ?_, upd_same, RdL.snoc (ra6.mut hn.1) (ry.mut hn.2.1), hf⟩
          · refine (((x2.trans x4).trans y5).trans (y6.trans x7)).sub ?_ fun a ha => ?_
            · simp only [List.cons_append, List.nodup_cons, List.mem_append, not_or, List.append_assoc] at nd6 ⊢
              refine ⟨⟨hn.1, hn.2.1, fun z => hn.2.2 (s7.mem z)⟩, ?_⟩
              have n2 := nd6.2
              refine List.nodup_append.mpr ⟨nodup_left n2, List.nodup_append.mpr ⟨nodup_left (nodup_right n2), s7.nodup (nodup_right (nodup_right n2)), fun a ha b hb e => ?_⟩, fun a ha b hb e => ?_⟩
              · subst e
                exact (List.nodup_append.mp (nodup_right n2)).2.2 a ha a (s7.mem hb) rfl
              · subst e
                refine (List.nodup_append.mp n2).2.2 a ha a ?_ rfl
                rcases List.mem_append.mp hb with z | z
                · exact List.mem_append_left _ z
                · exact List.mem_append_right _ (s7.mem z)
            · simp only [List.cons_append, List.mem_cons, List.mem_append] at ha ⊢
              rcases ha with z | (z | z) | z
              · exact .inl z
              · exact .inr (.inl z)
              · exact .inr (.inr (.inl z))
              · exact .inr (.inr (.inr (s7.mem z)))
          · exact RdE.mut (r7.wiped h3.1.symm (fun i hi => (h3.2 i hi).symm)) fun z => hn.2.2 (s7.mem z)
        · rw [if_neg hz] at hf; cases hf
  · rintro H2 ⟨e2, Z2, F2, acc, vs, Fa, x2, r2, hDn, ra, hf⟩
    rw [List.drop_length, lcF] at hf
    cases hf
    refine k (.ref Dn) Z2 H2 (Dn :: Fa) F2 (x1.trans x2) ?_ (r2.wiped (wipe_len ws).symm (fun i hi => (wipe_get hi).symm)) fun z => by cases z
    rw [RdV]
    exact ⟨Dn, vs, Fa, rfl, hDn, rfl, ra⟩
end
end Mi
set_option maxHeartbeats 4000000
namespace Mi
open PySem PySem.Spec PyProof.Rows L2 RZ Ov
/-! ### what a def promises by its mirror -/
inductive Rf where
  | ok (d : D) (io : List D)
  | ex (x : Exn) (io : List D)
  | no
abbrev Fun := List D → Rf
def pick {α : Type} : List Bool → List α → List α
  | true :: ms, v :: vs => v :: pick ms vs
  | false :: ms, _ :: vs => pick ms vs
  | _, _ => []
def spM (C : Ct) (xc : Bool) (io : List Bool) (f : Fun) : Sp := fun vs H Q E => ∃ ds Z F, vs.length = io.length ∧ RdL C Z H ds vs F ∧ Ok C.T Z H F ∧
  match f ds with
  | .ok d ios => ∀ v Z' H' Fv Fi, Ext C.T Z H F Z' H' (Fv ++ Fi) → RdV C Z' H' d v Fv → RdL C Z' H' ios (pick io vs) Fi → Q v H'
  | .ex x ios => xc = true ∧ ∀ (a : Option Addr) Ca Z' H' Fi us, Ext C.T Z H F Z' H' Fi → C.cls x.c = some Ca → XdAt H' a us → RdF C Z' H' x.fs us [] → RdL C Z' H' ios (pick io vs) Fi → E (.ref Ca) a H'
  | .no => False
/-- the values of names, none of them forgotten -/
def allS : Env → Option (List D)
  | [] => some []
  | some d :: r => (allS r).map (d :: ·)
  | none :: _ => none
/-- a def from its body: n further names -/
def fnOf (n : Nat) (io : List Bool) (m : MS) : Fun := fun ds =>
  match m (ds.map some ++ List.replicate n none) with
  | .ok (.rt d) env => (match allS (pick io env) with | some ios => .ok d ios | none => .no)
  | .ok .nx env => (match allS (pick io env) with | some ios => .ok .non ios | none => .no)
  | .ok _ _ => .no
  | .ex x env => (match allS (pick io env) with | some ios => .ex x ios | none => .no)
  | .no => .no
def pinOf : List Bool → Nat → List Nat
  | [], _ => []
  | true :: r, i => i :: pinOf r (i + 1)
  | false :: r, i => pinOf r (i + 1)
section
variable {N : Cn} {C : Ct} {Z H Z' H' Z1 H1 : Hp} {F F' G Fv F1 : List Addr} {σ σ1 : L2.St}
theorem RdE.ofL : ∀ {ds : List D} {vs : List V} {F : List Addr} {n : Nat}, RdL C Z H ds vs F → RdE C Z H (ds.map some ++ List.replicate n none) (vs.map some ++ List.replicate n none) F
  | [], _, F, n, h => by
    rw [RdL] at h
    obtain ⟨rfl, rfl⟩ := h
    induction n with
    | zero => exact ⟨rfl, rfl⟩
    | succ n ih => exact ⟨none, _, rfl, ih⟩
  | d :: ds, _, F, n, h => by
    rw [RdL] at h
    obtain ⟨v, r, F1, F2, rfl, rfl, h1, h2⟩ := h
    exact ⟨v, _, F1, F2, rfl, rfl, h1, RdE.ofL h2⟩
/-- the arguments that come back -/
theorem RdE.pick : ∀ {io : List Bool} {env : Env} {σ : L2.St} {F : List Addr} {ios : List D} {vs : List V}, RdE C Z H env σ F → allS (pick io env) = some ios → io.length ≤ env.length →
    pick io (σ.take io.length) = (pick io vs).map some → vs.length = io.length → ∃ F2, F2.Sublist F ∧ RdL C Z H ios (Mi.pick io vs) F2
  | [], env, σ, F, ios, vs, h, e, l, p, hv => by
    obtain rfl : [] = ios := by cases env <;> (simp [Mi.pick, allS] at e; exact e.symm)
    cases vs <;> exact ⟨[], List.nil_sublist _, by simp [Mi.pick, RdL]⟩
  | b :: io, [], σ, F, ios, vs, h, e, l, p, hv => by simp at l
  | b :: io, x :: env, σ, F, ios, [], h, e, l, p, hv => by simp at hv
  | false :: io, x :: env, σ, F, ios, v :: vs, h, e, l, p, hv => by
    cases x with
    | none =>
      obtain ⟨y, s, rfl, h⟩ := h
      obtain ⟨F2, s2, r2⟩ := RdE.pick (io := io) (vs := vs) h (by simpa [Mi.pick] using e) (by simpa using l) (by simpa [Mi.pick] using p) (by simpa using hv)
      exact ⟨F2, s2, by simpa [Mi.pick] using r2⟩
    | some d =>
      obtain ⟨y, s, G1, G2, rfl, rfl, _, h⟩ := h
      obtain ⟨F2, s2, r2⟩ := RdE.pick (io := io) (vs := vs) h (by simpa [Mi.pick] using e) (by simpa using l) (by simpa [Mi.pick] using p) (by simpa using hv)
      exact ⟨F2, s2.trans (List.sublist_append_right ..), by simpa [Mi.pick] using r2⟩
  | true :: io, x :: env, σ, F, ios, v :: vs, h, e, l, p, hv => by
    cases x with
    | none => simp [Mi.pick, allS] at e
    | some d =>
      obtain ⟨y, s, G1, G2, rfl, rfl, rv, h⟩ := h
      simp only [Mi.pick, allS, Option.map_eq_some_iff] at e
      obtain ⟨ios', e, rfl⟩ := e
      have p' : some y = some v ∧ Mi.pick io (s.take io.length) = (Mi.pick io vs).map some := by simpa [Mi.pick] using p
      obtain ⟨F2, s2, r2⟩ := RdE.pick (io := io) (vs := vs) h e (by simpa using l) p'.2 (by simpa using hv)
      refine ⟨G1 ++ F2, List.Sublist.append_left s2 G1, ?_⟩
      rw [Mi.pick, RdL]
      exact ⟨v, _, G1, F2, rfl, rfl, by rw [← Option.some.inj p'.1]; exact rv, r2⟩
theorem pick_pin : ∀ {io : List Bool} {vs : List V} {σ' : L2.St} {k : Nat} {pre : L2.St} {post : L2.St}, vs.length = io.length → pre.length = k → (∀ i ∈ pinOf io k, σ'[i]? = (pre ++ (vs.map some ++ post))[i]?) →
    k + io.length ≤ σ'.length → Mi.pick io ((σ'.drop k).take io.length) = (Mi.pick io vs).map some
  | [], vs, σ', k, pre, post, h, hk, e, l => by cases vs <;> simp [Mi.pick]
  | b :: io, [], σ', k, pre, post, h, hk, e, l => by simp at h
  | b :: io, v :: vs, σ', k, pre, post, h, hk, e, l => by
    have hlt : k < σ'.length := by simp at l; omega
    have ed : σ'.drop k = σ'[k] :: σ'.drop (k + 1) := List.drop_eq_getElem_cons hlt
    have ih := pick_pin (io := io) (vs := vs) (σ' := σ') (k := k + 1) (pre := pre ++ [some v]) (post := post) (by simpa using h) (by simp [hk]) (fun i hi => by
      rw [e i (by cases b <;> simp [pinOf, hi])]
      simp) (by simp at l; omega)
    rw [ed]
    cases b with
    | false =>
      simp only [List.take_succ_cons, List.length_cons, Mi.pick]
      exact ih
    | true =>
      have e0 := e k (by simp [pinOf])
      rw [List.getElem?_eq_getElem hlt, List.getElem?_append_right (by omega), hk, Nat.sub_self] at e0
      have e1 : σ'[k] = some v := by simpa using e0
      simp only [List.take_succ_cons, List.length_cons, Mi.pick, List.map_cons, e1]
      rw [ih]
/-- a body keeps its mirror's promise -/
theorem body_M {P : Program} {w : World} {K : PySem.W.Frag} {mg : Str → Option Value} {base : Heap} {k : Nat} {qual : Str} {st : Stmt} {f : Addr} {Ns : List Str} {io : List Bool} {cls : String → Option Addr} {m : MS} {n : Nat}
    (hn : Ns.length = io.length + n)
    (h : ∀ (cdv : Value) (A : Around) (outer : List PySem.Env) (s : Shared) (H : Hp) (E : XK), Rm k (A.deeper (envOfC qual (defScope st) s.heap.objs.size f cdv)) →
      ∃ t, PSs (cxOf CX0 P w K mg base Ns qual (defScope st) f cdv A outer s H E).nox (defBody st) t ∧ RefS ⟨⟨K, cls, P, w, Ω⟩, none, pinOf io 0⟩ t m) :
    Body P w K mg base k qual st f Ns (spM ⟨K, cls, P, w, Ω⟩ false io (fnOf n io m)) := by
  intro cdv A outer s H vs Q E hr hs
  obtain ⟨t, ht, hm⟩ := h cdv A outer s H E hr
  refine ⟨t, ht, ?_⟩
  obtain ⟨ds, Z, F, hl, rl, o, hf⟩ := hs
  have hst : L2.start Ns vs = vs.map some ++ List.replicate n none := by
    unfold L2.start
    rw [hn, hl, Nat.add_sub_cancel_left]
  rw [hst]
  refine hm (ds.map some ++ List.replicate n none) _ Z H F _ o (RdE.ofL rl) ?_
  have fin : ∀ {env : Env} {σ' : L2.St} {Z' H' : Hp} {F' : List Addr} {ios : List D}, Pin (pinOf io 0) (vs.map some ++ List.replicate n none) σ' → RdE ⟨K, cls, P, w, Ω⟩ Z' H' env σ' F' → allS (pick io env) = some ios →
      ∃ F2, F2.Sublist F' ∧ RdL ⟨K, cls, P, w, Ω⟩ Z' H' ios (pick io vs) F2 := by
    intro env σ' Z' H' F' ios p r e
    have le : env.length = vs.length + n := by rw [r.length, p.1]; simp
    have l1 : io.length ≤ env.length := by rw [le]; omega
    refine RdE.pick r e l1 ?_ hl
    have := pick_pin (io := io) (vs := vs) (σ' := σ') (k := 0) (pre := []) (post := List.replicate n none) hl rfl (fun i hi => by simpa using p.2 i hi) (by rw [← r.length]; omega)
    simpa using this
  unfold fnOf at hf
  cases q : m (ds.map some ++ List.replicate n none) with
  | no => rw [q] at hf; exact hf.elim
  | ex x env =>
    rw [q] at hf
    cases e : allS (pick io env) with
    | none => simp only [e] at hf
    | some ios =>
      simp only [e] at hf
      exact absurd hf.1 Bool.false_ne_true
  | ok fl env =>
    rw [q] at hf
    cases fl with
    | bk => exact hf.elim
    | ct => exact hf.elim
    | nx =>
      intro σ' Z' H' F' p x r
      cases e : allS (pick io env) with
      | none => simp only [e] at hf
      | some ios =>
        simp only [e] at hf
        obtain ⟨F2, s2, r2⟩ := fin p r e
        exact hf .non Z' H' [] F2 (x.sub (s2.nodup x.ok.nd) fun a ha => s2.mem ha) rd_non r2
    | rt d =>
      intro σ' v Z' H' Fv F' p x rv r
      cases e : allS (pick io env) with
      | none => simp only [e] at hf
      | some ios =>
        simp only [e] at hf
        obtain ⟨F2, s2, r2⟩ := fin p r e
        refine hf v Z' H' Fv F2 (x.sub (List.nodup_append.mpr ⟨nodup_left x.ok.nd, s2.nodup (nodup_right x.ok.nd), fun a ha b hb e => ?_⟩) fun a ha => ?_) rv r2
        · subst e
          exact x.ok.disj a ha (s2.mem hb)
        · rcases List.mem_append.mp ha with z | z
          · exact List.mem_append_left _ z
          · exact List.mem_append_right _ (s2.mem z)
/-! ### calls -/
/-- an argument: a value, or a name whose owned value the callee may change -/
inductive Arg where
  | e (m : ME)
  | io (j : Nat)
def eArgs : List Arg → Env → R (List (Option D))
  | [], env => .ok [] env
  | .e m :: as, env => (m env).bind fun d e => (eArgs as e).bind fun r e => .ok (some d :: r) e
  | .io j :: as, env => match env[j]? with
    | some (some _) => (eArgs as env).bind fun r e => .ok (none :: r) e
    | _ => .no
def RdM (C : Ct) (Z H : Hp) (σ : L2.St) : List Arg → List (Option D) → List V → List Addr → Prop
  | [], ms, vs, F => ms = [] ∧ vs = [] ∧ F = []
  | .e _ :: as, ms, vs, F => ∃ d r v s F1 F2, ms = some d :: r ∧ vs = v :: s ∧ F = F1 ++ F2 ∧ RdV C Z H d v F1 ∧ RdM C Z H σ as r s F2
  | .io j :: as, ms, vs, F => ∃ r v s, ms = none :: r ∧ vs = v :: s ∧ σ[j]? = some (some v) ∧ RdM C Z H σ as r s F
def RefM (N : Cn) (st : Bool) (t : TA) (as : List Arg) : Prop := ∀ env σ Z H F Q, Ok N.C.T Z H F → RdE N.C Z H env σ F →
  Wp N σ Z H F (eArgs as env) (fun ms env' => ∀ vs Z' H' Fv F', Ext N.C.T Z H F Z' H' (Fv ++ F') → RdM N.C Z' H' σ as ms vs Fv → RdE N.C Z' H' env' σ F' → (st = true → Same H H') → Q vs H') → t σ H Q
theorem rm_nil : RefM N true tNil [] := fun env σ Z H F Q o r w => w [] Z H [] F (Ext.refl o) ⟨rfl, rfl, rfl⟩ r (fun _ => Same.refl _)
theorem rm_e {s1 s2 : Bool} {t : TE} {u : TA} {m : ME} {as : List Arg} (h : RefE N s1 t m) (hs : RefM N s2 u as) : RefM N (s1 && s2) (tCons t u) (.e m :: as) := fun env σ Z H F Q o r w => by
  refine h env σ Z H F _ o r (w.bind.mono (Pin.refl _ _) (Ext.refl o) ?_)
  intro d env1 k v Z1 H1 Fv F1 x1 rv r1 sm1
  have o1 : Ok N.C.T Z1 H1 F1 := x1.ok.split
  refine hs env1 σ Z1 H1 F1 _ o1 r1 ((Wp.bind (k.mono (Pin.refl _ _) x1.right fun _ _ z => z)).mono (Pin.refl _ _) (Ext.refl o1) ?_)
  intro ds env2 k2 vs Z2 H2 Fvs F2 x2 rvs r2 sm2
  have y := x2.hold x1.ok
  refine k2 (v :: vs) Z2 H2 (Fv ++ Fvs) F2 ?_ ?_ r2 (fun z => ?_)
  · rw [List.append_assoc]; exact x1.trans y
  · exact ⟨d, ds, v, vs, Fv, Fvs, rfl, rfl, rfl, x2.held (x1.ok.disj) rv, rvs⟩
  · rw [Bool.and_eq_true] at z; exact (sm1 z.1).trans (sm2 z.2)
theorem rm_io {s2 : Bool} {j : Nat} {u : TA} {as : List Arg} (hs : RefM N s2 u as) : RefM N s2 (tCons (tVar j) u) (.io j :: as) := fun env σ Z H F Q o r w => by
  rw [eArgs] at w
  split at w
  · rename_i d e
    obtain ⟨v, F1, F2, h1, h2, h3, h4⟩ := r.take e
    refine ⟨v, h1, hs env σ Z H F _ o r (w.bind.mono (Pin.refl _ _) (Ext.refl o) ?_)⟩
    intro ds env2 k2 vs Z2 H2 Fvs F2 x2 rvs r2 sm2
    exact k2 (v :: vs) Z2 H2 Fvs F2 x2 ⟨ds, v, vs, rfl, rfl, h1, rvs⟩ r2 sm2
  · exact w.elim
/-- the arguments, the names taken out -/
def fillA : List Arg → List (Option D) → Env → Option (List D × Env)
  | [], _, env => some ([], env)
  | .e _ :: as, some d :: ms, env => (fillA as ms env).map fun r => (d :: r.1, r.2)
  | .io j :: as, _ :: ms, env => match env[j]? with
    | some (some d) => (fillA as ms (env.set j none)).map fun r => (d :: r.1, r.2)
    | _ => none
  | _, _, _ => none
/-- .. and given back -/
def backA : List Arg → List D → Env → Option Env
  | [], [], env => some env
  | .e _ :: as, ios, env => backA as ios env
  | .io j :: as, d :: ios, env => backA as ios (env.set j (some d))
  | _, _, _ => none
def ioOf : List Arg → List Bool
  | [] => []
  | .e _ :: as => false :: ioOf as
  | .io _ :: as => true :: ioOf as
theorem fillA_ok : ∀ {as : List Arg} {ms : List (Option D)} {vs : List V} {env env2 : Env} {ds : List D} {Fv F : List Addr}, RdM C Z H σ as ms vs Fv → RdE C Z H env σ F → fillA as ms env = some (ds, env2) →
    ∃ Fa Fr, RdL C Z H ds vs Fa ∧ RdE C Z H env2 σ Fr ∧ (Fv ++ F).Perm (Fa ++ Fr)
  | [], ms, vs, env, env2, ds, Fv, F, h, r, e => by
    obtain ⟨rfl, rfl, rfl⟩ := h
    cases e
    exact ⟨[], F, ⟨rfl, rfl⟩, r, List.Perm.refl _⟩
  | .e m :: as, ms, vs, env, env2, ds, Fv, F, h, r, e => by
    obtain ⟨d, ms', v, s, F1, F2, rfl, rfl, rfl, rv, h⟩ := h
    rw [fillA, Option.map_eq_some_iff] at e
    obtain ⟨⟨ds', env'⟩, e, q⟩ := e
    cases q
    obtain ⟨Fa, Fr, h1, h2, h3⟩ := fillA_ok h r e
    refine ⟨F1 ++ Fa, Fr, ⟨v, s, F1, Fa, rfl, rfl, rv, h1⟩, h2, ?_⟩
    rw [List.append_assoc, List.append_assoc]
    exact List.Perm.append_left F1 h3
  | .io j :: as, ms, vs, env, env2, ds, Fv, F, h, r, e => by
    obtain ⟨ms', v, s, rfl, rfl, hv, h⟩ := h
    rw [fillA] at e
    split at e
    · rename_i d ed
      obtain ⟨v', G1, G2, g1, g2, g3, g4⟩ := r.take ed
      rw [hv] at g1
      cases g1
      rw [Option.map_eq_some_iff] at e
      obtain ⟨⟨ds', env'⟩, e, q⟩ := e
      cases q
      obtain ⟨Fa, Fr, h1, h2, h3⟩ := fillA_ok h g4 e
      refine ⟨G1 ++ Fa, Fr, ⟨v, s, G1, Fa, rfl, rfl, g2, h1⟩, h2, ?_⟩
      refine (List.Perm.append_left Fv g3).trans ?_
      rw [← List.append_assoc, List.append_assoc G1]
      refine (List.Perm.append_right G2 List.perm_append_comm).trans ?_
      rw [List.append_assoc]
      exact List.Perm.append_left G1 h3
    · cases e
theorem set_same {env : Env} {j : Nat} {v : V} (h : σ[j]? = some (some v)) : σ.set j (some v) = σ := by
  refine List.ext_getElem? fun i => ?_
  rw [List.getElem?_set]
  by_cases q : j = i
  · subst q
    rw [if_pos rfl, h]
    rcases Nat.lt_or_ge j σ.length with z | z
    · rw [if_pos z]
    · rw [List.getElem?_eq_none z] at h; cases h
  · rw [if_neg q]
theorem backA_ok : ∀ {as : List Arg} {ms : List (Option D)} {vs : List V} {env env2 : Env} {ios : List D} {Fv F Fi : List Addr} {Z0 H0 : Hp}, RdM C Z0 H0 σ as ms vs Fv → Ok C.T Z H (Fi ++ F) → RdE C Z H env σ F → RdL C Z H ios (pick (ioOf as) vs) Fi → backA as ios env = some env2 →
    ∃ F2, F2.Nodup ∧ (∀ a ∈ F2, a ∈ Fi ++ F) ∧ RdE C Z H env2 σ F2
  | [], ms, vs, env, env2, ios, Fv, F, Fi, Z0, H0, h, o, r, rl, e => by
    cases ios with
    | nil =>
      cases e
      exact ⟨F, nodup_right o.nd, fun a ha => List.mem_append_right _ ha, r⟩
    | cons => cases e
  | .e m :: as, ms, vs, env, env2, ios, Fv, F, Fi, Z0, H0, h, o, r, rl, e => by
    obtain ⟨d, ms', v, s, F1, F2, rfl, rfl, rfl, rv, h⟩ := h
    exact backA_ok h o r (by simpa [ioOf, pick] using rl) (by simpa [backA] using e)
  | .io j :: as, ms, vs, env, env2, ios, Fv, F, Fi, Z0, H0, h, o, r, rl, e => by
    obtain ⟨ms', v, s, rfl, rfl, hv, h⟩ := h
    cases ios with
    | nil => cases e
    | cons d ios =>
      rw [ioOf, pick, RdL] at rl
      obtain ⟨v', s', G1, G2, hh, rfl, rv, rl⟩ := rl
      cases hh
      have o1 : Ok C.T Z H (G1 ++ F) := o.sub (by
        refine List.nodup_append.mpr ⟨nodup_left (nodup_left o.nd), nodup_right o.nd, fun a ha b hb z => ?_⟩
        subst z
        exact o.disj a (List.mem_append_left _ ha) hb) fun a ha => by
          rcases List.mem_append.mp ha with z | z
          · exact List.mem_append_left _ (List.mem_append_left _ z)
          · exact List.mem_append_right _ z
      obtain ⟨F3, h1, h2, h3⟩ := rd_set (i := j) o1 r rv
      rw [set_same (env := env) hv] at h3
      have o2 : Ok C.T Z H (G2 ++ F3) := o.sub (by
        refine List.nodup_append.mpr ⟨nodup_right (nodup_left o.nd), h1, fun a ha b hb z => ?_⟩
        subst z
        rcases List.mem_append.mp (h2 a hb) with z | z
        · exact (List.nodup_append.mp (nodup_left o.nd)).2.2 a z a ha rfl
        · exact o.disj a (List.mem_append_right _ ha) z) fun a ha => by
          rcases List.mem_append.mp ha with z | z
          · exact List.mem_append_left _ (List.mem_append_right _ z)
          · rcases List.mem_append.mp (h2 a z) with z | z
            · exact List.mem_append_left _ (List.mem_append_left _ z)
            · exact List.mem_append_right _ z
      obtain ⟨F4, g1, g2, g3⟩ := backA_ok h o2 h3 rl (by simpa [backA] using e)
      refine ⟨F4, g1, fun a ha => ?_, g3⟩
      rcases List.mem_append.mp (g2 a ha) with z | z
      · exact List.mem_append_left _ (List.mem_append_right _ z)
      · rcases List.mem_append.mp (h2 a z) with z | z
        · exact List.mem_append_left _ (List.mem_append_left _ z)
        · exact List.mem_append_right _ z
/-- the call itself, the arguments reckoned -/
def callF (f : Fun) (as : List Arg) (ms : List (Option D)) (env : Env) : R D := match fillA as ms env with
  | none => .no
  | some (ds, e2) => match f ds with
    | .ok d ios => (match backA as ios e2 with | some e3 => .ok d e3 | none => .no)
    | .ex x ios => (match backA as ios e2 with | some e3 => .ex x e3 | none => .no)
    | .no => .no
def eCall (f : Fun) (as : List Arg) : ME := fun env => (eArgs as env).bind fun ms e => callF f as ms e
def WE' (N : Cn) (xc : Bool) (σ : L2.St) (E : XK) : Prop := match N.px with
  | none => True
  | some W => xc = true ∧ ∀ cls d H, W cls d σ H → E cls d H
theorem RdM.vlen : ∀ {as : List Arg} {ms : List (Option D)} {vs : List V} {Fv : List Addr}, RdM C Z H σ as ms vs Fv → vs.length = (ioOf as).length
  | [], _, _, _, h => by rw [h.2.1]; rfl
  | .e m :: as, _, _, _, h => by
    obtain ⟨d, ms', v, s, F1, F2, rfl, rfl, rfl, rv, h⟩ := h
    simp [ioOf, h.vlen]
  | .io j :: as, _, _, _, h => by
    obtain ⟨ms', v, s, rfl, rfl, hv, h⟩ := h
    simp [ioOf, h.vlen]
theorem call_core {f : Fun} {as : List Arg} {ms : List (Option D)} {vs : List V} {env : Env} {Q : VK} {E : XK} {Z0 H0 : Hp} {F0 : List Addr} {xc : Bool} (hx : WE' N xc σ E) (x : Ext N.C.T Z0 H0 F0 Z H (Fv ++ F)) (rm : RdM N.C Z H σ as ms vs Fv) (r : RdE N.C Z H env σ F)
    (w : Wp N σ Z0 H0 F0 (callF f as ms env) (fun d env' => ∀ v Z' H' Fv F', Ext N.C.T Z0 H0 F0 Z' H' (Fv ++ F') → RdV N.C Z' H' d v Fv → RdE N.C Z' H' env' σ F' → (false = true → Same H0 H') → Q v H')) :
    spM N.C xc (ioOf as) f vs H Q E := by
  unfold callF at w
  cases hf : fillA as ms env with
  | none => rw [hf] at w; exact w.elim
  | some p =>
  obtain ⟨ds, e2⟩ := p
  rw [hf] at w
  obtain ⟨Fa, Fr, ra, rr, pm⟩ := fillA_ok rm r hf
  have o1 : Ok N.C.T Z H (Fa ++ Fr) := x.ok.sub (pm.nodup_iff.mp x.ok.nd) (perm_mem pm)
  have oa : Ok N.C.T Z H Fa := o1.sub (nodup_left o1.nd) fun a ha => List.mem_append_left _ ha
  have x0 : Ext N.C.T Z0 H0 F0 Z H (Fa ++ Fr) := x.sub o1.nd (perm_mem pm)
  refine ⟨ds, Z, Fa, rm.vlen, ra, oa, ?_⟩
  have w : Wp N σ Z0 H0 F0 (match f ds with
    | .ok d ios => (match backA as ios e2 with | some e3 => R.ok d e3 | none => .no)
    | .ex x ios => (match backA as ios e2 with | some e3 => .ex x e3 | none => .no)
    | .no => .no) _ := w
  cases hfd : f ds with
  | no => rw [hfd] at w; exact w.elim
  | ok d ios =>
    rw [hfd] at w
    simp only at w ⊢
    cases hb : backA as ios e2 with
    | none => rw [hb] at w; exact w.elim
    | some e3 =>
      rw [hb] at w
      intro v Z' H' Fv' Fi x2 rv ri
      have y := x2.frame o1
      have rr' : RdE N.C Z' H' e2 σ Fr := x2.heldE (fun a ha z => o1.disj a z ha) rr
      have o2 : Ok N.C.T Z' H' (Fi ++ Fr) := y.ok.sub (by have := y.ok.nd; rw [List.append_assoc] at this; exact nodup_right this) fun a ha => by
        rw [List.append_assoc]; exact List.mem_append_right _ ha
      obtain ⟨F4, g1, g2, g3⟩ := backA_ok rm o2 rr' ri hb
      refine w v Z' H' Fv' F4 ((x0.trans y).sub ?_ ?_) rv g3 fun z => ?_
      · refine List.nodup_append.mpr ⟨?_, g1, fun a ha b hb z => ?_⟩
        · have := y.ok.nd; rw [List.append_assoc] at this; exact nodup_left this
        · subst z
          have := y.ok.nd
          rw [List.append_assoc] at this
          exact (List.nodup_append.mp this).2.2 a ha a (g2 a hb) rfl
      · intro a ha
        rw [List.append_assoc]
        rcases List.mem_append.mp ha with z | z
        · exact List.mem_append_left _ z
        · exact List.mem_append_right _ (g2 a z)
      · cases z
  | ex xx ios =>
    rw [hfd] at w
    simp only at w ⊢
    cases hb : backA as ios e2 with
    | none => rw [hb] at w; exact w.elim
    | some e3 =>
      rw [hb] at w
      refine ⟨?_, ?_⟩
      · have w : Wish N σ Z0 H0 F0 xx e3 := w
        unfold Wish at w
        unfold WE' at hx
        cases hp : N.px with
        | none => rw [hp] at w; exact w.elim
        | some W => rw [hp] at hx; exact hx.1
      intro a Ca Z' H' Fi us x2 hc ha hu ri
      have y := x2.frame o1
      have rr' : RdE N.C Z' H' e2 σ Fr := x2.heldE (fun a ha z => o1.disj a z ha) rr
      obtain ⟨F4, g1, g2, g3⟩ := backA_ok rm y.ok rr' ri hb
      have w : Wish N σ Z0 H0 F0 xx e3 := w
      unfold Wish at w
      unfold WE' at hx
      cases hp : N.px with
      | none => rw [hp] at w; exact w.elim
      | some W =>
        rw [hp] at w hx
        exact hx.2 _ _ _ (w σ a Ca Z' H' F4 us (Pin.refl _ _) ((x0.trans y).sub g1 g2) g3 hc ha hu)
theorem re_call {st xc : Bool} {f : Fun} {as : List Arg} {t : TA} {E : XK} {io : List Bool} (h : RefM N st t as) (hio : ioOf as = io) (hx : ∀ σ, WE' N xc σ E) : RefE N false (tCall (spM N.C xc io f) [] E t) (eCall f as) := fun env σ Z H F Q o r w => by
  subst hio
  refine h env σ Z H F _ o r (w.bind.mono (Pin.refl _ _) (Ext.refl o) ?_)
  intro ms env1 k vs Z1 H1 Fv F1 x rm r1 _
  rw [List.append_nil]
  exact call_core (hx σ) x rm r1 k
/-! ### methods -/
/-- an instance of c, m none of its fields -/
def recv (c m : String) : D → Bool
  | .ins _ c' fs => c' == c && fs.all fun p => !(p.1 == m)
  | _ => false
def eMeth (c m : String) (f : Fun) (a : Arg) (as : List Arg) : ME := fun env => match a with
  | .e me => (me env).bind fun d e => if recv c m d then (eArgs as e).bind fun ms e => callF f (a :: as) (some d :: ms) e else .no
  | .io j => match env[j]? with
    | some (some d) => if recv c m d then (eArgs as env).bind fun ms e => callF f (a :: as) (none :: ms) e else .no
    | _ => .no
theorem ofString_inj {a b : String} (h : PySem.Str.ofString a = PySem.Str.ofString b) : a = b := by
  rw [PySem.Str.ofString_eq_toList, PySem.Str.ofString_eq_toList] at h
  have h := congrArg PySem.Str.cps h
  have h : (a.toList.map Char.toNat).toArray = (b.toList.map Char.toNat).toArray := h
  have h : a.toList.map Char.toNat = b.toList.map Char.toNat := by simpa using h
  have h : a.toList = b.toList := by
    refine List.map_inj_right (f := Char.toNat) ?_ |>.mp h
    intro x y e
    exact Char.ext (UInt32.toNat_inj.mp e)
  exact String.toList_inj.mp h
theorem RdF.none : ∀ {fs : List (String × D)} {us : List (Str × V)} {F : List Addr} {m : String}, RdF C Z H fs us F → (fs.all fun p => !(p.1 == m)) = true → us.lookup (PySem.Str.ofString m) = none
  | [], us, F, m, h, _ => by rw [RdF] at h; rw [h.1]; rfl
  | (k, d) :: fs, us, F, m, h, e => by
    rw [RdF] at h
    obtain ⟨v, s, F1, F2, rfl, rfl, _, h⟩ := h
    rw [List.all_cons, Bool.and_eq_true] at e
    have hk : (PySem.Str.ofString m == PySem.Str.ofString k) = false := beq_eq_false_iff_ne.mpr fun z => by
      have := ofString_inj z
      subst this
      simp at e
    rw [List.lookup, hk]
    exact RdF.none h e.2
theorem RdF.get : ∀ {fs : List (String × D)} {us : List (Str × V)} {F : List Addr} {f : String} {d : D}, RdF C Z H fs us F → fs.lookup f = some d → ∃ v F1 F2, us.lookup (PySem.Str.ofString f) = some v ∧ RdV C Z H d v F1 ∧ F.Perm (F1 ++ F2)
  | [], us, F, m, d, h, e => by cases e
  | (k, d0) :: fs, us, F, f, d, h, e => by
    rw [RdF] at h
    obtain ⟨v, s, F1, F2, rfl, rfl, rv, h⟩ := h
    rw [List.lookup] at e
    by_cases q : f = k
    · subst q
      rw [beq_self_eq_true] at e
      cases e
      exact ⟨v, F1, F2, by rw [List.lookup, beq_self_eq_true], rv, List.Perm.refl _⟩
    · have q1 : (f == k) = false := beq_eq_false_iff_ne.mpr q
      rw [q1] at e
      obtain ⟨v', G1, G2, h1, h2, h3⟩ := RdF.get h e
      have q2 : (PySem.Str.ofString f == PySem.Str.ofString k) = false := beq_eq_false_iff_ne.mpr fun z => q (ofString_inj z)
      refine ⟨v', G1, F1 ++ G2, by rw [List.lookup, q2]; exact h1, h2, ?_⟩
      refine (List.Perm.append_left F1 h3).trans ?_
      rw [← List.append_assoc, ← List.append_assoc]
      exact List.Perm.append_right G2 List.perm_append_comm
/-- an instance, wherever it stands -/
theorem RdV.inst {o : Bool} {c : String} {fs : List (String × D)} {v : V} (ok : Same Z H) (h : RdV C Z H (.ins o c fs) v F) : ∃ a Ca dx us G, v = .ref a ∧ C.cls c = some Ca ∧ H a = some (.ins Ca dx us) ∧ RdF C Z H fs us G := by
  cases o with
  | false =>
    rw [RdV] at h
    obtain ⟨_, a, Ca, dx, us, h1, h2, h3, h4⟩ := h
    exact ⟨a, Ca, dx, us, [], h1, h2, ok _ _ h3, h4⟩
  | true =>
    rw [RdV] at h
    obtain ⟨a, Ca, dx, us, G, h1, h2, h3, _, h4⟩ := h
    exact ⟨a, Ca, dx, us, G, h1, h2, h3, h4⟩
/-! ### a new instance -/
def callN (c : String) (f : Fun) (as : List Arg) (ms : List (Option D)) (env : Env) : R D := match fillA as ms env with
  | none => .no
  | some (ds, e2) => match f (.ins true c [] :: ds) with
    | .ok .non (self :: ios) => (match backA as ios e2 with | some e3 => .ok self e3 | none => .no)
    | .ex x (_ :: ios) => (match backA as ios e2 with | some e3 => .ex x e3 | none => .no)
    | _ => .no
def eNew (c : String) (f : Fun) (as : List Arg) : ME := fun env => (eArgs as env).bind fun ms e => callN c f as ms e
theorem re_new {st xc : Bool} {c : String} {f : Fun} {as : List Arg} {t : TA} {E : XK} {io : List Bool} {Ca : Addr} (hc : N.C.cls c = some Ca) (h : RefM N st t as) (hio : true :: ioOf as = io) (hx : ∀ σ, WE' N xc σ E) :
    RefE N false (tMake Ca (spM N.C xc io f) [] E t) (eNew c f as) := fun env σ Z H F Q o r w => by
  subst hio
  refine h env σ Z H F _ o r (w.bind.mono (Pin.refl _ _) (Ext.refl o) ?_)
  intro ms env1 k vs Z1 H1 Fv F1 x rm r1 _
  intro p dx hp hdx hne
  rw [List.append_nil]
  unfold callN at k
  cases hf : fillA as ms env1 with
  | none => rw [hf] at k; exact k.elim
  | some pp =>
  obtain ⟨ds, e2⟩ := pp
  rw [hf] at k
  obtain ⟨Fa, Fr, ra, rr, pm⟩ := fillA_ok rm r1 hf
  have o1 : Ok N.C.T Z1 H1 (Fa ++ Fr) := x.ok.sub (pm.nodup_iff.mp x.ok.nd) (perm_mem pm)
  have x0 : Ext N.C.T Z H F Z1 H1 (Fa ++ Fr) := x.sub o1.nd (perm_mem pm)
  have y1 := Ext.junk (o := .own p) o1 hdx
  have hp2 : (upd H1 dx (.own p)) p = none := by rw [upd_ne (Ne.symm hne)]; exact hp
  have y2 := Ext.new (o := .ins Ca dx []) y1.ok hp2
  have y := y1.trans y2
  have sm : Same H1 (upd (upd H1 dx (.own p)) p (.ins Ca dx [])) := (same_new hdx).trans (same_new hp2)
  generalize hH2 : upd (upd H1 dx (.own p)) p (.ins Ca dx []) = H2 at y sm
  have hpH : H2 p = some (.ins Ca dx []) := by rw [← hH2, upd_same]
  have ra2 : RdL N.C Z1 H2 (.ins true c [] :: ds) (.ref p :: vs) (p :: Fa) := by
    rw [RdL]
    refine ⟨.ref p, vs, [p], Fa, rfl, rfl, ?_, ra.same (Same.refl _) sm⟩
    rw [RdV]
    exact ⟨p, Ca, dx, [], [], rfl, hc, hpH, rfl, by rw [RdF]; exact ⟨rfl, rfl⟩⟩
  have rr2 : RdE N.C Z1 H2 e2 σ Fr := rr.same (Same.refl _) sm
  have o2 : Ok N.C.T Z1 H2 ((p :: Fa) ++ Fr) := y.ok
  have x1 : Ext N.C.T Z H F Z1 H2 ((p :: Fa) ++ Fr) := x0.trans y
  refine ⟨.ins true c [] :: ds, Z1, p :: Fa, by simp [rm.vlen], ra2, o2.sub (nodup_left o2.nd) fun a ha => List.mem_append_left _ ha, ?_⟩
  have k : Wp N σ Z H F (match f (.ins true c [] :: ds) with
    | .ok .non (self :: ios) => (match backA as ios e2 with | some e3 => R.ok self e3 | none => .no)
    | .ex x (_ :: ios) => (match backA as ios e2 with | some e3 => .ex x e3 | none => .no)
    | _ => .no) _ := k
  cases hfd : f (.ins true c [] :: ds) with
  | no => rw [hfd] at k; exact k.elim
  | ok d ios =>
    rw [hfd] at k
    have hd : d = .non := by cases d <;> first | rfl | exact k.elim
    subst hd
    cases ios with
    | nil => exact k.elim
    | cons self ios =>
      simp only at k ⊢
      cases hb : backA as ios e2 with
      | none => rw [hb] at k; exact k.elim
      | some e3 =>
        rw [hb] at k
        intro v Z' H' Fv' Fi x2 rv ri
        rw [RdV] at rv
        obtain ⟨rfl, rfl⟩ := rv
        refine ⟨rfl, ?_⟩
        rw [pick, RdL] at ri
        obtain ⟨v', s', G1, G2, hh, rfl, rs, ri⟩ := ri
        cases hh
        have yy := x2.frame o2
        simp only [List.nil_append] at yy
        have rr' : RdE N.C Z' H' e2 σ Fr := x2.heldE (fun a ha z => o2.disj a z ha) rr2
        have o3 : Ok N.C.T Z' H' (G2 ++ Fr) := yy.ok.sub (by have := yy.ok.nd; rw [List.append_assoc] at this; exact nodup_right this) fun a ha => by
          rw [List.append_assoc]; exact List.mem_append_right _ ha
        obtain ⟨F4, g1, g2, g3⟩ := backA_ok rm o3 rr' ri hb
        refine k (.ref p) Z' H' G1 F4 ((x1.trans yy).sub ?_ ?_) rs g3 fun z => by cases z
        · refine List.nodup_append.mpr ⟨?_, g1, fun a ha b hb z => ?_⟩
          · have := yy.ok.nd; rw [List.append_assoc] at this; exact nodup_left this
          · subst z
            have := yy.ok.nd
            rw [List.append_assoc] at this
            exact (List.nodup_append.mp this).2.2 a ha a (g2 a hb) rfl
        · intro a ha
          rw [List.append_assoc]
          rcases List.mem_append.mp ha with z | z
          · exact List.mem_append_left _ z
          · exact List.mem_append_right _ (g2 a z)
  | ex xx ios =>
    rw [hfd] at k
    cases ios with
    | nil => exact k.elim
    | cons self ios =>
      simp only at k ⊢
      cases hb : backA as ios e2 with
      | none => rw [hb] at k; exact k.elim
      | some e3 =>
        rw [hb] at k
        have k : Wish N σ Z H F xx e3 := k
        unfold Wish at k
        have hx := hx σ
        unfold WE' at hx
        cases hpx : N.px with
        | none => rw [hpx] at k; exact k.elim
        | some W =>
          rw [hpx] at k hx
          refine ⟨hx.1, ?_⟩
          intro a Cb Z' H' Fi us x2 hcb ha hu ri
          rw [pick, RdL] at ri
          obtain ⟨v', s', G1, G2, hh, rfl, rs, ri⟩ := ri
          cases hh
          have yy := x2.frame o2
          have rr' : RdE N.C Z' H' e2 σ Fr := x2.heldE (fun a ha z => o2.disj a z ha) rr2
          have o3 : Ok N.C.T Z' H' (G2 ++ Fr) := yy.ok.sub (by have := yy.ok.nd; rw [List.append_assoc] at this; exact nodup_right this) fun a ha => by
            rw [List.append_assoc]; exact List.mem_append_right _ ha
          obtain ⟨F4, g1, g2, g3⟩ := backA_ok rm o3 rr' ri hb
          refine hx.2 _ _ _ (k σ a Cb Z' H' F4 us (Pin.refl _ _) ((x1.trans yy).sub g1 fun a ha => ?_) g3 hcb ha hu)
          rw [List.append_assoc]; exact List.mem_append_right _ (g2 a ha)
end
end Mi
set_option maxHeartbeats 4000000
namespace Mi
open PySem PySem.Spec PyProof.Rows L2 RZ Ov
section
variable {N : Cn} {C : Ct} {Z H Z' H' : Hp} {F F' G Fv : List Addr} {σ : L2.St}
/-! ### lists of frozen things -/
theorem RdL.cons0 {d : D} {ds : List D} {v : V} {vs : List V} (h : RdV C Z H d v []) (t : RdL C Z H ds vs []) : RdL C Z H (d :: ds) (v :: vs) [] := by
  rw [RdL]; exact ⟨v, vs, [], [], rfl, rfl, h, t⟩
theorem RdL.nil0 : RdL C Z H [] [] [] := by rw [RdL]; exact ⟨rfl, rfl⟩
theorem RdL.inv0 {d : D} {ds : List D} {vs : List V} (h : RdL C Z H (d :: ds) vs []) : ∃ v r, vs = v :: r ∧ RdV C Z H d v [] ∧ RdL C Z H ds r [] := by
  rw [RdL] at h
  obtain ⟨v, r, F1, F2, h1, h2, h3, h4⟩ := h
  obtain ⟨rfl, rfl⟩ : F1 = [] ∧ F2 = [] := by simpa using h2.symm
  exact ⟨v, r, h1, h3, h4⟩
theorem RdL.app0 : ∀ {ds es : List D} {vs us : List V}, RdL C Z H ds vs [] → RdL C Z H es us [] → RdL C Z H (ds ++ es) (vs ++ us) []
  | [], es, vs, us, h, h2 => by rw [RdL] at h; rw [h.1]; exact h2
  | d :: ds, es, vs, us, h, h2 => by
    obtain ⟨v, r, rfl, h3, h4⟩ := h.inv0
    exact RdL.cons0 h3 (RdL.app0 h4 h2)
theorem RdL.drop0 : ∀ {ds : List D} {vs : List V} (n : Nat), RdL C Z H ds vs [] → RdL C Z H (ds.drop n) (vs.drop n) []
  | ds, vs, 0, h => h
  | [], vs, n + 1, h => by rw [RdL] at h; rw [h.1]; exact RdL.nil0
  | d :: ds, vs, n + 1, h => by
    obtain ⟨v, r, rfl, h3, h4⟩ := h.inv0
    exact RdL.drop0 n h4
theorem RdL.take0 : ∀ {ds : List D} {vs : List V} (n : Nat), RdL C Z H ds vs [] → RdL C Z H (ds.take n) (vs.take n) []
  | ds, vs, 0, h => RdL.nil0
  | [], vs, n + 1, h => by rw [RdL] at h; rw [h.1]; exact RdL.nil0
  | d :: ds, vs, n + 1, h => by
    obtain ⟨v, r, rfl, h3, h4⟩ := h.inv0
    exact RdL.cons0 h3 (RdL.take0 n h4)
theorem RdL.rep0 {ds : List D} {vs : List V} (h : RdL C Z H ds vs []) : ∀ n : Nat, RdL C Z H (List.replicate n ds).flatten (List.replicate n vs).flatten []
  | 0 => RdL.nil0
  | n + 1 => by
    rw [List.replicate_succ, List.replicate_succ, List.flatten_cons, List.flatten_cons]
    exact RdL.app0 h (RdL.rep0 h n)
/-- .. by place -/
theorem RdL.at : ∀ {ds : List D} {vs : List V} {F : List Addr} {i : Nat} {d : D}, RdL C Z H ds vs F → ds[i]? = some d → ∃ v F1, vs[i]? = some v ∧ RdV C Z H d v F1
  | [], _, _, i, d, _, e => by simp at e
  | d0 :: ds, _, _, 0, d, h, e => by
    rw [RdL] at h
    obtain ⟨v, r, F1, F2, rfl, _, h3, _⟩ := h
    cases e
    exact ⟨v, F1, rfl, h3⟩
  | d0 :: ds, _, _, i + 1, d, h, e => by
    rw [RdL] at h
    obtain ⟨v, r, F1, F2, rfl, _, _, h4⟩ := h
    obtain ⟨v', F', h1, h2⟩ := RdL.at h4 (show ds[i]? = some d from e)
    exact ⟨v', F', h1, h2⟩
theorem RdL.atI {ds : List D} {vs : List V} {i : Int} {d : D} (h : RdL C Z H ds vs F) (e : L2.atI ds i = some d) : ∃ v F1, L2.atI vs i = some v ∧ RdV C Z H d v F1 := by
  unfold L2.atI at e ⊢
  rw [← h.length]
  cases q : ixN ds.length i with
  | none => rw [q] at e; cases e
  | some j =>
    rw [q] at e
    obtain ⟨v, F1, h1, h2⟩ := RdL.at h (show ds[j]? = some d from e)
    exact ⟨v, F1, h1, h2⟩
/-! ### what is read as a list or a tuple -/
/-- the items of a list -/
def lstD : D → Option (List D)
  | .lst _ ds => some ds
  | .scr ds => some ds
  | _ => none
theorem RdV.lstD {d : D} {v : V} {ds : List D} (zh : Same Z H) (h : RdV C Z H d v F) (e : Mi.lstD d = some ds) : ∃ a vs G, v = .ref a ∧ SqL C.K H a vs ∧ RdL C Z H ds vs G := by
  cases d with
  | lst o xs =>
    cases e
    cases o with
    | false =>
      rw [RdV] at h
      obtain ⟨_, a, vs, h1, h2, h3⟩ := h
      exact ⟨a, vs, [], h1, sqL_of (zh _ _ h2), h3⟩
    | true =>
      rw [RdV] at h
      obtain ⟨a, vs, G, h1, h2, _, h3⟩ := h
      exact ⟨a, vs, G, h1, sqL_of h2, h3⟩
  | scr xs =>
    cases e
    rw [RdV] at h
    obtain ⟨_, a, vs, h1, h2, h3⟩ := h
    exact ⟨a, vs, [], h1, zh.seq h2, h3⟩
  | _ => cases e
/-- .. that stands for itself -/
theorem RdV.lstP {o : Bool} {v : V} {ds : List D} (zh : Same Z H) (h : RdV C Z H (.lst o ds) v F) : ∃ a vs G, v = .ref a ∧ H a = some (.lst vs) ∧ RdL C Z H ds vs G := by
  cases o with
  | false =>
    rw [RdV] at h
    obtain ⟨_, a, vs, h1, h2, h3⟩ := h
    exact ⟨a, vs, [], h1, zh _ _ h2, h3⟩
  | true =>
    rw [RdV] at h
    obtain ⟨a, vs, G, h1, h2, _, h3⟩ := h
    exact ⟨a, vs, G, h1, h2, h3⟩
theorem RdV.tupP {v : V} {ds : List D} (zh : Same Z H) (h : RdV C Z H (.tup ds) v F) : F = [] ∧ ∃ a vs, v = .ref a ∧ SqT C.K H a vs ∧ RdL C Z H ds vs [] := by
  rw [RdV] at h
  obtain ⟨h0, a, vs, h1, h2, h3⟩ := h
  exact ⟨h0, a, vs, h1, Same.seqT zh h2, h3⟩
theorem RdL.nof {ds : List D} {vs : List V} (z : Mi.fznL ds = true) (h : RdL C Z H ds vs F) : RdL C Z H ds vs [] := by
  have := RdL.fznL ds vs F z h
  subst this
  exact h
theorem RdV.intI {i : Int} {v : V} (h : RdV C Z H (.int i) v F) : v = .int i := by rw [RdV] at h; exact h.1
theorem RdV.strI {i : Str} {v : V} (h : RdV C Z H (.str i) v F) : v = .str i := by rw [RdV] at h; exact h.1
theorem RdV.blI {i : Bool} {v : V} (h : RdV C Z H (.bl i) v F) : v = .bl i := by rw [RdV] at h; exact h.1
theorem RdV.nonI {v : V} (h : RdV C Z H .non v F) : v = .non := by rw [RdV] at h; exact h.1
/-! ### new things -/
theorem post_lst {ds : List D} {vs : List V} {p : Addr} {Q : VK} (o : Ok C.T Z H F) (P : Post C Z H F (.lst true ds) Q) (hp : H p = none) (r : RdL C Z H ds vs []) : Q (.ref p) (upd H p (.lst vs)) := by
  refine P (.ref p) Z _ [p] (Ext.new o hp) ?_ (same_new hp)
  rw [RdV]
  exact ⟨p, vs, [], rfl, upd_same, rfl, r.same (Same.refl _) (same_new hp)⟩
theorem post_tup {ds : List D} {vs : List V} {p : Addr} {Q : VK} (o : Ok C.T Z H F) (P : Post C Z H F (.tup ds) Q) (hp : H p = none) (r : RdL C Z H ds vs []) : Q (.ref p) (upd H p (.tup vs)) := by
  refine P (.ref p) (upd Z p (.tup vs)) _ [] (Ext.newZ o hp) ?_ (same_new hp)
  rw [RdV]
  exact ⟨rfl, p, vs, rfl, sqT_of upd_same, r.frozen (same_new (o.zh.free hp)) _⟩
/-! ### operators -/
def mulOk (i j : Int) : Bool := decide (i.natAbs.log2 + j.natAbs.log2 < 1000000)
def fAdd : D → D → Option D
  | .int a, .int b => some (.int (a + b))
  | .str a, .str b => if a.length + b.length ≤ sizeLine then some (.str (a ++ b)) else none
  | .tup a, .tup b => if a.length + b.length ≤ sizeLine then some (.tup (a ++ b)) else none
  | .lst _ a, .lst _ b => if a.length + b.length ≤ sizeLine ∧ fznL a = true ∧ fznL b = true then some (.lst true (a ++ b)) else none
  | _, _ => none
def rAddU (K : PySem.W.Frag) : R2 := fun x y H Q => ((rI0 fun i j => .int (i + j)) x y H Q ∨ (∃ i j, x = .str i ∧ y = .str j ∧ i.length + j.length ≤ sizeLine ∧ Q (.str (i ++ j)) H)) ∨ (rCatA K x y H Q ∨ rCat x y H Q)
theorem o_add {X : Cx} (K : PySem.W.Frag) (h : X.K = K := by rfl) : OpR X (binaryOp .Add) (rAddU K) := by
  subst h
  exact OpR.or (OpR.or op_add op_add_str) (OpR.or op_catA op_cat)
theorem f_add : Fn2 C (rAddU C.K) fAdd := by
  intro d v Fd d' v' Fd' Z H F Q e o rd rd' hf p
  unfold fAdd at hf
  split at hf
  · cases hf
    rw [RdV] at rd rd'
    rw [rd.1, rd'.1]
    exact .inl (.inl ⟨_, _, rfl, rfl, post_val o p rd_int⟩)
  · split at hf
    · rename_i q
      cases hf
      rw [RdV] at rd rd'
      rw [rd.1, rd'.1]
      exact .inl (.inr ⟨_, _, rfl, rfl, q, post_val o p rd_str⟩)
    · cases hf
  · rename_i a b
    split at hf
    · rename_i q
      cases hf
      obtain ⟨_, x, vs, rfl, h1, h2⟩ := rd.tupP o.zh
      obtain ⟨_, y, us, rfl, g1, g2⟩ := rd'.tupP o.zh
      refine .inr (.inl ⟨x, y, vs, us, rfl, rfl, h1, g1, by rw [← h2.length, ← g2.length]; exact q, ?_, ?_, ?_⟩)
      · intro e
        refine post_val o p ?_
        have : a = [] := List.eq_nil_of_length_eq_zero (by rw [h2.length, e]; rfl)
        rw [this]
        rw [RdV] at rd' ⊢
        exact ⟨rfl, rd'.2⟩
      · intro _ e
        refine post_val o p ?_
        have : b = [] := List.eq_nil_of_length_eq_zero (by rw [g2.length, e]; rfl)
        rw [this, List.append_nil]
        rw [RdV] at rd ⊢
        exact ⟨rfl, rd.2⟩
      · intro _ _ pp hp
        exact post_tup o p hp (h2.app0 g2)
    · cases hf
  · rename_i oa a ob b
    split at hf
    · rename_i q
      cases hf
      obtain ⟨x, vs, G1, rfl, h1, h2⟩ := rd.lstP o.zh
      obtain ⟨y, us, G2, rfl, g1, g2⟩ := rd'.lstP o.zh
      refine .inr (.inr ⟨x, y, vs, us, rfl, rfl, h1, g1, by rw [← h2.length, ← g2.length]; exact q.1, fun pp hp => ?_⟩)
      exact post_lst o p hp ((h2.nof q.2.1).app0 (g2.nof q.2.2))
    · cases hf
  · cases hf
/-- two ints -/
def fI2 (g : Int → Int → Option D) : D → D → Option D
  | .int a, .int b => g a b
  | _, _ => none
theorem f_i2 {r : R2} {g : Int → Int → Option D} (h : ∀ a b e Q H, g a b = some e → (∀ v, (∀ Z H, RdV C Z H e v []) → Q v H) → r (.int a) (.int b) H Q) : Fn2 C r (fI2 g) := by
  intro d v Fd d' v' Fd' Z H F Q e o rd rd' hf p
  unfold fI2 at hf
  split at hf
  · rw [RdV] at rd rd'
    rw [rd.1, rd'.1]
    exact h _ _ e Q H hf fun v hv => post_val o p (hv Z H)
  · cases hf
def fSub := fI2 fun a b => some (.int (a - b))
theorem f_sub : Fn2 C (rI0 fun i j => .int (i - j)) fSub := f_i2 fun a b e Q H h k => by cases h; exact ⟨a, b, rfl, rfl, k _ fun _ _ => rd_int⟩
def fMod := fI2 fun a b => if 0 < b then some (.int (a % b)) else none
theorem f_mod : Fn2 C (rI (fun _ j => 0 < j) fun i j => .int (i % j)) fMod := f_i2 fun a b e Q H h k => by
  split at h
  · cases h; exact ⟨a, b, rfl, rfl, ‹_›, k _ fun _ _ => rd_int⟩
  · cases h
def fDiv := fI2 fun a b => if 0 < b ∧ b.natAbs.log2 < 9000 then some (.int (a / b)) else none
theorem f_div : Fn2 C (rI CDivW fun i j => .int (i / j)) fDiv := f_i2 fun a b e Q H h k => by
  split at h
  · cases h; exact ⟨a, b, rfl, rfl, ‹_›, k _ fun _ _ => rd_int⟩
  · cases h
def fPow := fI2 fun a b => if 0 ≤ b ∧ b ≤ 1000000 ∧ a.natAbs < 2 ^ 64 then some (.int (a ^ b.toNat)) else none
theorem f_pow : Fn2 C (rI CPow fun i j => .int (i ^ j.toNat)) fPow := f_i2 fun a b e Q H h k => by
  split at h
  · cases h; exact ⟨a, b, rfl, rfl, ‹_›, k _ fun _ _ => rd_int⟩
  · cases h
def fLt := fI2 fun a b => some (.bl (decide (a < b)))
theorem f_lt : Fn2 C (rI0 fun i j => .bl (decide (i < j))) fLt := f_i2 fun a b e Q H h k => by cases h; exact ⟨a, b, rfl, rfl, k _ fun _ _ => rd_bl⟩
def fLe := fI2 fun a b => some (.bl (decide (a ≤ b)))
theorem f_le : Fn2 C (rI0 fun i j => .bl (decide (i ≤ j))) fLe := f_i2 fun a b e Q H h k => by cases h; exact ⟨a, b, rfl, rfl, k _ fun _ _ => rd_bl⟩
def fGt := fI2 fun a b => some (.bl (decide (b < a)))
theorem f_gt : Fn2 C (rI0 fun i j => .bl (decide (j < i))) fGt := f_i2 fun a b e Q H h k => by cases h; exact ⟨a, b, rfl, rfl, k _ fun _ _ => rd_bl⟩
def fGe := fI2 fun a b => some (.bl (decide (b ≤ a)))
theorem f_ge : Fn2 C (rI0 fun i j => .bl (decide (j ≤ i))) fGe := f_i2 fun a b e Q H h k => by cases h; exact ⟨a, b, rfl, rfl, k _ fun _ _ => rd_bl⟩
/-- times: numbers, a list, a tuple, a text -/
def fMul : D → D → Option D
  | .int a, .int b => if mulOk a b then some (.int (a * b)) else none
  | .lst _ a, .int k => if -(2 ^ 63) ≤ k ∧ k < 2 ^ 63 ∧ a.length * k.toNat ≤ sizeLine ∧ fznL a = true then some (.lst true (List.replicate k.toNat a).flatten) else none
  | .str a, .int k => if -1000 ≤ k ∧ k ≤ 1000 ∧ a.length ≤ 1000 then some (.str (Txt.mul a k)) else none
  | .tup a, .int k => if a ≠ [] ∧ 2 ≤ k ∧ k ≤ 1000 ∧ a.length ≤ 1000 then some (.tup (List.replicate k.toNat a).flatten) else none
  | _, _ => none
def rMulS : R2 := fun x y H Q => ∃ (a : Str) (k : Int), x = .str a ∧ y = .int k ∧ -1000 ≤ k ∧ k ≤ 1000 ∧ a.length ≤ 1000 ∧ Q (.str (Txt.mul a k)) H
theorem op_mulS {X : Cx} : OpR X (binaryOp .Mult) rMulS := by
  intro pins s σ H x y v u Q I rx ry h
  obtain ⟨a, k, rfl, rfl, h1, h2, h3, q⟩ := h
  obtain ⟨t, rfl⟩ := rx
  obtain ⟨t', rfl⟩ := ry
  have hm : MulOk a k := by
    refine ⟨?_, ?_, ?_⟩
    · rw [Bool.or_eq_false_iff]
      exact ⟨decide_eq_false (by omega), decide_eq_false (by omega)⟩
    · intro g _ hc
      have h4 : (2 ^ 63 - 1 : Int) / k ≥ (2 ^ 63 - 1 : Int) / 1000 := by
        have hk : 0 < k := by omega
        rw [ge_iff_le, Int.le_ediv_iff_mul_le hk]
        have : (2 ^ 63 - 1 : Int) / 1000 * k ≤ (2 ^ 63 - 1 : Int) / 1000 * 1000 := Int.mul_le_mul_of_nonneg_left h2 (by decide)
        exact Int.le_trans this (by decide)
      have : (1000 : Int) ≤ (2 ^ 63 - 1 : Int) / 1000 := by decide
      omega
    · intro _ _
      unfold Builtin.Str.tooLong
      refine decide_eq_false ?_
      have : a.length * k.toNat ≤ 1000 * 1000 := Nat.mul_le_mul h3 (by omega)
      have : (1000 * 1000 : Nat) < sizeLine := by decide
      omega
  exact SB.mul hm fun t2 k2 => ⟨.str _, H, I.tok _, ⟨_, rfl⟩, q⟩
def rMulU (K : PySem.W.Frag) : R2 := fun x y H Q => ((rI CMulW fun i j => .int (i * j)) x y H Q ∨ rRep x y H Q) ∨ (rMulS x y H Q ∨ rRepT K x y H Q)
theorem o_mul {X : Cx} (K : PySem.W.Frag) (h : X.K = K := by rfl) : OpR X (binaryOp .Mult) (rMulU K) := by
  subst h
  exact OpR.or (OpR.or op_mulW op_rep) (OpR.or op_mulS op_repT)
theorem f_mul : Fn2 C (rMulU C.K) fMul := by
  intro d v Fd d' v' Fd' Z H F Q e o rd rd' hf p
  unfold fMul at hf
  split at hf
  · split at hf
    · rename_i q
      cases hf
      rw [RdV] at rd rd'
      rw [rd.1, rd'.1]
      exact .inl (.inl ⟨_, _, rfl, rfl, by simpa [mulOk, CMulW] using q, post_val o p rd_int⟩)
    · cases hf
  · split at hf
    · rename_i q
      cases hf
      obtain ⟨x, vs, G1, rfl, h1, h2⟩ := rd.lstP o.zh
      rw [RdV] at rd'
      rw [rd'.1]
      exact .inl (.inr ⟨x, _, vs, rfl, rfl, h1, q.1, q.2.1, by rw [← h2.length]; exact q.2.2.1, fun pp hp => post_lst o p hp ((h2.nof q.2.2.2).rep0 _)⟩)
    · cases hf
  · split at hf
    · rename_i q
      cases hf
      exact .inr (.inl ⟨_, _, rd.strI, rd'.intI, q.1, q.2.1, q.2.2, post_val o p rd_str⟩)
    · cases hf
  · split at hf
    · rename_i q
      cases hf
      obtain ⟨_, x, vs, rfl, h1, h2⟩ := rd.tupP o.zh
      rw [RdV] at rd'
      rw [rd'.1]
      refine .inr (.inr ⟨x, _, vs, rfl, rfl, h1, fun z => q.1 (List.eq_nil_of_length_eq_zero (by rw [h2.length, z]; rfl)), q.2.1, q.2.2.1, by rw [← h2.length]; exact q.2.2.2, fun pp hp => post_tup o p hp (h2.rep0 _)⟩)
    · cases hf
  · cases hf
/-! ### data: ==, repr -/
mutual
def toPy : D → Option PyData
  | .non => some .none
  | .bl b => some (.bool b)
  | .int i => some (.int i)
  | .str x => some (.str x)
  | .tup ds => (toPyL ds).map .tuple
  | .lst _ ds => (toPyL ds).map .list
  | .scr ds => (toPyL ds).map .list
  | _ => none
def toPyL : List D → Option (List PyData)
  | [] => some []
  | d :: ds => (toPy d).bind fun p => (toPyL ds).map (p :: ·)
end
mutual
theorem RdV.dp (zh : Same Z H) : ∀ (d : D) (v : V) (F : List Addr) (p : PyData), toPy d = some p → RdV C Z H d v F → Dp C.K H v p
  | .non, v, F, p, e, h => by rw [toPy] at e; cases e; rw [RdV] at h; rw [h.1]; exact .non
  | .bl b, v, F, p, e, h => by rw [toPy] at e; cases e; rw [RdV] at h; rw [h.1]; exact .bl b
  | .int b, v, F, p, e, h => by rw [toPy] at e; cases e; rw [RdV] at h; rw [h.1]; exact .int b
  | .str b, v, F, p, e, h => by rw [toPy] at e; cases e; rw [RdV] at h; rw [h.1]; exact .str b
  | .tup ds, v, F, p, e, h => by
    rw [toPy, Option.map_eq_some_iff] at e
    obtain ⟨ps, e, rfl⟩ := e
    obtain ⟨_, a, vs, rfl, h1, h2⟩ := h.tupP zh
    exact .tup h1 (RdL.dp zh ds vs [] ps e h2)
  | .lst o ds, v, F, p, e, h => by
    rw [toPy, Option.map_eq_some_iff] at e
    obtain ⟨ps, e, rfl⟩ := e
    obtain ⟨a, vs, G, rfl, h1, h2⟩ := h.lstD zh rfl
    exact .lst h1 (RdL.dp zh ds vs G ps e h2)
  | .scr ds, v, F, p, e, h => by
    rw [toPy, Option.map_eq_some_iff] at e
    obtain ⟨ps, e, rfl⟩ := e
    obtain ⟨a, vs, G, rfl, h1, h2⟩ := h.lstD zh rfl
    exact .lst h1 (RdL.dp zh ds vs G ps e h2)
  | .dct _ _, v, F, p, e, h => by rw [toPy] at e <;> first | cases e | (intros; contradiction)
  | .ins _ _ _, v, F, p, e, h => by rw [toPy] at e <;> first | cases e | (intros; contradiction)
  | .set _, v, F, p, e, h => by rw [toPy] at e <;> first | cases e | (intros; contradiction)
  | .exn _ _, v, F, p, e, h => by rw [toPy] at e <;> first | cases e | (intros; contradiction)
  | .fnc _ _ _ _ _, v, F, p, e, h => by rw [toPy] at e <;> first | cases e | (intros; contradiction)
  | .dcg _ _, v, F, p, e, h => by rw [toPy] at e <;> first | cases e | (intros; contradiction)
theorem RdL.dp (zh : Same Z H) : ∀ (ds : List D) (vs : List V) (F : List Addr) (ps : List PyData), toPyL ds = some ps → RdL C Z H ds vs F → DpAll C.K H vs ps
  | [], vs, F, ps, e, h => by rw [toPyL] at e; cases e; rw [RdL] at h; rw [h.1]; exact .nil
  | d :: ds, vs, F, ps, e, h => by
    rw [toPyL, Option.bind_eq_some_iff] at e
    obtain ⟨p, e1, e2⟩ := e
    rw [Option.map_eq_some_iff] at e2
    obtain ⟨qs, e2, rfl⟩ := e2
    rw [RdL] at h
    obtain ⟨v, r, F1, F2, rfl, _, h3, h4⟩ := h
    exact .cons (RdV.dp zh d v F1 p e1 h3) (RdL.dp zh ds r F2 qs e2 h4)
end
/-- == of data -/
def eqP (d e : D) : Option Bool := match toPy d, toPy e with
  | some p, some q => if SeqAt.shaped p && SeqAt.shaped q then some (PyData.eqv p q) else none
  | _, _ => none
def fEq (d e : D) : Option D := (eqP d e).map .bl
def fNe (d e : D) : Option D := (eqP d e).map fun b => .bl (!b)
theorem eqP_dp {d e : D} {b : Bool} (h : eqP d e = some b) : ∃ p q, toPy d = some p ∧ toPy e = some q ∧ SeqAt.shaped p = true ∧ SeqAt.shaped q = true ∧ b = PyData.eqv p q := by
  unfold eqP at h
  split at h
  · rename_i p q e1 e2
    split at h
    · rename_i k
      rw [Bool.and_eq_true] at k
      exact ⟨p, q, e1, e2, k.1, k.2, (Option.some.inj h).symm⟩
    · cases h
  · cases h
theorem f_eq : Fn2 C (rEqD C.K) fEq := by
  intro d v Fd d' v' Fd' Z H F Q e o rd rd' hf p
  unfold fEq at hf
  rw [Option.map_eq_some_iff] at hf
  obtain ⟨b, hb, rfl⟩ := hf
  obtain ⟨p1, p2, e1, e2, s1, s2, rfl⟩ := eqP_dp hb
  exact ⟨p1, p2, RdV.dp o.zh d v Fd p1 e1 rd, RdV.dp o.zh d' v' Fd' p2 e2 rd', s1, s2, post_val o p rd_bl⟩
theorem f_ne : Fn2 C (rNeD C.K) fNe := by
  intro d v Fd d' v' Fd' Z H F Q e o rd rd' hf p
  unfold fNe at hf
  rw [Option.map_eq_some_iff] at hf
  obtain ⟨b, hb, rfl⟩ := hf
  obtain ⟨p1, p2, e1, e2, s1, s2, rfl⟩ := eqP_dp hb
  exact ⟨p1, p2, RdV.dp o.zh d v Fd p1 e1 rd, RdV.dp o.zh d' v' Fd' p2 e2 rd', s1, s2, post_val o p rd_bl⟩
/-- is None; is True -/
def isNonD : D → Bool
  | .non => true
  | _ => false
theorem isNon_iff {d : D} {v : V} (h : RdV C Z H d v F) : decide (v = .non) = isNonD d := by
  cases d <;> (first | (rw [RdV] at h) | skip)
  case non => rw [h.1]; rfl
  case bl => rw [h.1]; rfl
  case int => rw [h.1]; rfl
  case str => rw [h.1]; rfl
  case tup => obtain ⟨_, a, vs, rfl, _⟩ := h; rfl
  case set => obtain ⟨_, a, vs, rfl, _⟩ := h; rfl
  case scr => obtain ⟨_, a, vs, rfl, _⟩ := h; rfl
  case exn => obtain ⟨_, a, Ca, d, us, rfl, _⟩ := h; rfl
  case fnc => obtain ⟨_, rfl, _⟩ := h; rfl
  case dcg o ds =>
    cases o
    · obtain ⟨_, a, vs, rfl, _⟩ := h; rfl
    · obtain ⟨a, vs, G, rfl, _⟩ := h; rfl
  case lst o ds =>
    cases o
    · obtain ⟨_, a, vs, rfl, _⟩ := h; rfl
    · obtain ⟨a, vs, G, rfl, _⟩ := h; rfl
  case dct o ds =>
    cases o
    · obtain ⟨_, a, vs, rfl, _⟩ := h; rfl
    · obtain ⟨a, vs, G, rfl, _⟩ := h; rfl
  case ins o c ds =>
    cases o
    · obtain ⟨_, a, Ca, dx, vs, rfl, _⟩ := h; rfl
    · obtain ⟨a, Ca, dx, vs, G, rfl, _⟩ := h; rfl
def fIs : D → D → Option D
  | d, .non => some (.bl (isNonD d))
  | .bl a, .bl b => some (.bl (decide (a = b)))
  | _, _ => none
def fNis : D → D → Option D
  | d, .non => some (.bl (!isNonD d))
  | .bl a, .bl b => some (.bl (!decide (a = b)))
  | _, _ => none
def rIsU : R2 := fun x y H Q => (y = .non ∧ Q (.bl (decide (x = .non))) H) ∨ ∃ a b, x = .bl a ∧ y = .bl b ∧ Q (.bl (decide (a = b))) H
theorem o_is {X : Cx} : OpR X (compareOp .Is) rIsU := OpR.or op_isN op_is_bl
theorem f_is : Fn2 C rIsU fIs := by
  intro d v Fd d' v' Fd' Z H F Q e o rd rd' hf p
  unfold fIs at hf
  split at hf
  · cases hf
    rw [RdV] at rd'
    refine .inl ⟨rd'.1, ?_⟩
    rw [isNon_iff rd]
    exact post_val o p rd_bl
  · cases hf
    rw [RdV] at rd rd'
    exact .inr ⟨_, _, rd.1, rd'.1, post_val o p rd_bl⟩
  · cases hf
end
end Mi
set_option maxHeartbeats 4000000
namespace Mi
open PySem PySem.Spec PyProof.Rows L2 RZ Ov
section
variable {N : Cn} {C : Ct} {Z H Z' H' : Hp} {F F' G Fv : List Addr} {σ : L2.St}
/-! ### flat values -/
def flatD : D → Bool
  | .non => true
  | .bl _ => true
  | .int _ => true
  | .str _ => true
  | _ => false
def eqF : D → D → Bool
  | .non, .non => true
  | .bl a, .bl b => a == b
  | .bl a, .int b => (if a then 1 else 0) == b
  | .int a, .bl b => a == (if b then 1 else 0)
  | .int a, .int b => a == b
  | .str a, .str b => a == b
  | _, _ => false
def vF : D → V
  | .bl b => .bl b
  | .int i => .int i
  | .str x => .str x
  | _ => .non
theorem RdV.flat {d : D} {v : V} (f : flatD d = true) (h : RdV C Z H d v F) : v = vF d ∧ flatV v = true := by
  cases d with
  | non => rw [h.nonI]; exact ⟨rfl, rfl⟩
  | bl b => rw [h.blI]; exact ⟨rfl, rfl⟩
  | int b => rw [h.intI]; exact ⟨rfl, rfl⟩
  | str b => rw [h.strI]; exact ⟨rfl, rfl⟩
  | _ => cases f
theorem eqV_vF {d e : D} (h : flatD d = true) (g : flatD e = true) : eqV (vF d) (vF e) = eqF d e := by
  cases d <;> cases e <;> first | rfl | (exact absurd h Bool.false_ne_true) | (exact absurd g Bool.false_ne_true)
theorem RdL.flat : ∀ {ds : List D} {vs : List V} {F : List Addr}, ds.all flatD = true → RdL C Z H ds vs F → vs = ds.map vF ∧ vs.all flatV = true
  | [], _, _, _, h => by rw [RdL] at h; rw [h.1]; exact ⟨rfl, rfl⟩
  | d :: ds, _, _, f, h => by
    rw [RdL] at h
    obtain ⟨v, r, F1, F2, rfl, _, h3, h4⟩ := h
    rw [List.all_cons, Bool.and_eq_true] at f
    obtain ⟨e1, e2⟩ := h3.flat f.1
    obtain ⟨e3, e4⟩ := RdL.flat f.2 h4
    exact ⟨by rw [e1, e3]; rfl, by rw [List.all_cons, e2, e4]; rfl⟩
def inF (d : D) (ds : List D) : Bool := ds.any fun y => eqF y d
theorem inV_vF {d : D} (f : flatD d = true) : ∀ {ds : List D}, ds.all flatD = true → inV (vF d) (ds.map vF) = inF d ds
  | [], _ => rfl
  | e :: ds, h => by
    rw [List.all_cons, Bool.and_eq_true] at h
    have := inV_vF f h.2
    unfold inV inF at this ⊢
    rw [List.map_cons, List.any_cons, List.any_cons, this, eqV_vF h.1 f]
/-! ### keys -/
def keyD : D → Option Key
  | .int i => some (.inl i)
  | .str x => some (.inr x)
  | _ => none
theorem kD_key {d : D} {k : Key} (h : keyD d = some k) : d = kD k := by
  cases d <;> cases h <;> rfl
theorem RdV.key {d : D} {v : V} {k : Key} (e : keyD d = some k) (h : RdV C Z H d v F) : v = kV k := by
  cases d with
  | int i => cases e; exact h.intI
  | str i => cases e; exact h.strI
  | _ => cases e
theorem eqF_kD {a b : Key} : eqF (kD a) (kD b) = decide (a = b) := by
  cases a <;> cases b <;> simp [kD, eqF, Bool.beq_eq_decide_eq]
def lookD (kvs : List (D × D)) (k : D) : Option D := (kvs.find? fun p => eqF p.1 k).map (·.2)
theorem RdK.val : ∀ {kvs : List (D × D)} {us : List (Key × V)} {F : List Addr} {k : Key}, RdK C Z H kvs us F →
    (lookD kvs (kD k) = none ∧ valV us k = none) ∨ ∃ d v F1, lookD kvs (kD k) = some d ∧ valV us k = some v ∧ RdV C Z H d v F1
  | [], _, _, k, h => by rw [RdK] at h; rw [h.1]; exact .inl ⟨rfl, rfl⟩
  | (q0, d0) :: kvs, _, _, k, h => by
    rw [RdK] at h
    obtain ⟨q, v, s, F1, F2, rfl, _, rfl, rv, h⟩ := h
    have ih := RdK.val (k := k) h
    unfold lookD valV at ih ⊢
    rw [List.find?_cons, List.find?_cons]
    simp only [eqF_kD]
    by_cases e : q = k
    · subst e
      simp only [decide_true]
      exact .inr ⟨d0, v, F1, rfl, rfl, rv⟩
    · simp only [decide_eq_false e]
      exact ih
/-! ### in -/
def fIn : D → D → Option D
  | d, .tup ds => if flatD d && ds.all flatD then some (.bl (inF d ds)) else none
  | d, .lst _ ds => if flatD d && ds.all flatD then some (.bl (inF d ds)) else none
  | d, .dct _ kvs => match keyD d with | some _ => some (.bl (lookD kvs d).isSome) | none => none
  | .str x, .str z => match x.cps.toList with | [c] => some (.bl (decide (c ∈ z.cps.toList))) | _ => none
  | _, _ => none
def rDIn (neg : Bool) : R2 := fun y x H Q => ∃ a o, x = .ref a ∧ DGet H a y o ∧ Q (.bl (if neg then !o.isSome else o.isSome)) H
theorem o_dIn {X : Cx} (hu : X.A.units + 64 < cLine) : OpR X (compareOp .In) (rDIn false) := by
  intro pins s σ H x y v u Q I rx ry h
  obtain ⟨a, o, rfl, g, q⟩ := h
  cases ry
  exact d_in (by omega) I g rx fun s3 I3 => ⟨.bl o.isSome, H, I3, rfl, q⟩
def rSignIn (neg : Bool) : R2 := fun x y H Q => ∃ (c : Nat) (z : Str), x = .str ⟨#[c]⟩ ∧ y = .str z ∧ Q (.bl (if neg then !decide (c ∈ z.cps.toList) else decide (c ∈ z.cps.toList))) H
def rInU (K : PySem.W.Frag) (neg : Bool) : R2 := fun x y H Q => rIn K neg x y H Q ∨ (rDIn neg x y H Q ∨ rSignIn neg x y H Q)
theorem o_in {X : Cx} (K : PySem.W.Frag) (hu : X.A.units + 64 < cLine) (h : X.K = K := by rfl) : OpR X (compareOp .In) (rInU K false) := by
  subst h
  exact OpR.or op_in_seq (OpR.or (o_dIn hu) op_in_sign)
theorem DGet.kd {a : Addr} {us : List (Key × V)} {k : Key} (e : H a = some (.dK us)) : DGet H a (kV k) (valV us k) := L2.DGet.k e
theorem RdV.dctP {o : Bool} {v : V} {kvs : List (D × D)} (zh : Same Z H) (h : RdV C Z H (.dct o kvs) v F) : ∃ a us G, v = .ref a ∧ H a = some (.dK us) ∧ RdK C Z H kvs us G := by
  cases o with
  | false =>
    rw [RdV] at h
    obtain ⟨_, a, vs, h1, h2, h3⟩ := h
    exact ⟨a, vs, [], h1, zh _ _ h2, h3⟩
  | true =>
    rw [RdV] at h
    obtain ⟨a, vs, G, h1, h2, _, h3⟩ := h
    exact ⟨a, vs, G, h1, h2, h3⟩
theorem in_core (neg : Bool) {d v Fd d' v' Fd' Q} {b : Bool} (o : Ok C.T Z H F) (rd : RdV C Z H d v Fd) (rd' : RdV C Z H d' v' Fd') (hf : fIn d d' = some (.bl b)) (q : Q (V.bl (if neg then !b else b)) H) : rInU C.K neg v v' H Q := by
  unfold fIn at hf
  split at hf
  · split at hf
    · rename_i ds k
      cases hf
      rw [Bool.and_eq_true] at k
      obtain ⟨_, a, vs, rfl, h1, h2⟩ := rd'.tupP o.zh
      obtain ⟨e1, e2⟩ := rd.flat k.1
      obtain ⟨e3, e4⟩ := h2.flat k.2
      refine .inl ⟨a, vs, rfl, .inr h1, e2, e4, ?_⟩
      rw [e1, e3, inV_vF k.1 k.2]
      exact q
    · cases hf
  · split at hf
    · rename_i ow ds k
      cases hf
      rw [Bool.and_eq_true] at k
      obtain ⟨a, vs, G, rfl, h1, h2⟩ := rd'.lstD o.zh rfl
      obtain ⟨e1, e2⟩ := rd.flat k.1
      obtain ⟨e3, e4⟩ := h2.flat k.2
      refine .inl ⟨a, vs, rfl, .inl h1, e2, e4, ?_⟩
      rw [e1, e3, inV_vF k.1 k.2]
      exact q
    · cases hf
  · split at hf
    · rename_i kvs dd k hk
      cases hf
      obtain ⟨a, us, G, rfl, h1, h2⟩ := rd'.dctP o.zh
      obtain rfl := kD_key hk
      have e1 := rd.key hk
      subst e1
      have e2 : (valV us k).isSome = (lookD kvs (kD k)).isSome := by
        rcases h2.val (k := k) with ⟨z1, z2⟩ | ⟨x, y, F1, z1, z2, _⟩
        · rw [z1, z2]; rfl
        · rw [z1, z2]; rfl
      refine .inr (.inl ⟨a, _, rfl, DGet.kd h1, ?_⟩)
      rw [e2]
      exact q
    · cases hf
  · split at hf
    · rename_i x z ls c hc
      cases hf
      have e1 := rd.strI
      have e2 := rd'.strI
      subst e1 e2
      have : x = ⟨#[c]⟩ := by
        cases x with
        | mk cps =>
          have : cps = #[c] := by
            have h : cps.toList = [c] := hc
            cases cps with
            | mk l => cases h; rfl
          rw [this]
      exact .inr (.inr ⟨c, z, by rw [this], rfl, q⟩)
    · cases hf
  · cases hf
theorem f_in : Fn2 C (rInU C.K false) fIn := by
  intro d v Fd d' v' Fd' Z H F Q e o rd rd' hf p
  have hb : ∃ b, e = .bl b := by
    unfold fIn at hf
    split at hf <;> (try split at hf) <;> first | (cases hf; exact ⟨_, rfl⟩) | cases hf
  obtain ⟨b, rfl⟩ := hb
  exact in_core false o rd rd' hf (post_val o p rd_bl)
/-! ### looks: nothing new in the heap -/
def Fn2T (C : Ct) (r : R2) (f : D → D → Option D) : Prop := ∀ d v Fd d' v' Fd' Z H F Q e, Ok C.T Z H F → RdV C Z H d v Fd → RdV C Z H d' v' Fd' → f d d' = some e → (∀ u Fe, RdV C Z H e u Fe → Q u H) → r v v' H Q
theorem rt_op {s1 : Bool} {r : R2} {f : D → D → Option D} {t u : TE} {m n : ME} (hf : Fn2T N.C r f) (h : RefT N s1 t m) (hu : RefT N true u n) : RefT N s1 (tOp r t u) (e2 f m n) := fun env σ Z H F Q o re w => by
  refine h env σ Z H F _ o re (w.bind.mono (Pin.refl _ _) (Ext.refl o) ?_)
  intro d env1 k v Z1 H1 Fd F1 x1 rd r1 sm1
  refine hu env1 σ Z1 H1 F1 _ x1.ok r1 ((Wp.bind (k.mono (Pin.refl _ _) x1 fun _ _ z => z)).mono (Pin.refl _ _) (Ext.refl x1.ok) ?_)
  intro d2 env2 k2 v2 Z2 H2 Fd2 F2 x2 rd2 r2 sm2
  obtain ⟨e, he⟩ := wp_lift k2
  rw [he] at k2
  exact hf d v Fd d2 v2 Fd2 Z2 H2 F2 Q e x2.ok (rd.same x2.zz (sm2 rfl)) rd2 he fun u Fe ru => k2 u Z2 H2 Fe F2 (x1.trans x2) ru r2 fun z => (sm1 z).trans (sm2 rfl)
theorem rt_opk {s1 s2 : Bool} {r : R2} {f : D → D → Option D} {t u : TE} {m n : ME} (hf : Fn2T N.C r f) (h : RefE N s1 t m) (hu : RefT N s2 u n) : RefT N (s1 && s2) (tOp r t u) (e2 f m n) := fun env σ Z H F Q o re w => by
  refine h env σ Z H F _ o re (w.bind.mono (Pin.refl _ _) (Ext.refl o) ?_)
  intro d env1 k v Z1 H1 Fd F1 x1 rd r1 sm1
  have o1 := x1.ok.split
  refine hu env1 σ Z1 H1 F1 _ o1 r1 ((Wp.bind (k.mono (Pin.refl _ _) x1.right fun _ _ z => z)).mono (Pin.refl _ _) (Ext.refl o1) ?_)
  intro d2 env2 k2 v2 Z2 H2 Fd2 F2 x2 rd2 r2 sm2
  obtain ⟨e, he⟩ := wp_lift k2
  rw [he] at k2
  exact hf d v Fd d2 v2 Fd2 Z2 H2 F2 Q e x2.ok (x2.held x1.ok.disj rd) rd2 he fun u Fe ru => k2 u Z2 H2 Fe F2 (x1.right.trans x2) ru r2 fun z => by
    rw [Bool.and_eq_true] at z
    exact (sm1 z.1).trans (sm2 z.2)
def fIx : D → D → Option D
  | .tup ds, .int i => atI ds i
  | .lst _ ds, .int i => atI ds i
  | .scr ds, .int i => atI ds i
  | .str x, .int i => if x.length ≤ sizeLine then (atI x.cps.toList i).map fun c => .str ⟨#[c]⟩ else none
  | .dct _ kvs, k => match keyD k with | some _ => lookD kvs k | none => none
  | _, _ => none
def rDGetU : R2 := fun x y H Q => ∃ a v, x = .ref a ∧ DGet H a y (some v) ∧ Q v H
theorem ix_dict {X : Cx} (hu : X.A.units + 64 < cLine) : IxR X rDGetU := by
  intro value slice pins s σ H x y v u Q I rx ry q hs
  obtain ⟨a, w0, rfl, g, q⟩ := q
  cases rx
  have hT := dict_typeIs I g
  have main := d_getItem (A := X.A) (E := X.xe) (Q := EP X pins σ Q) (by omega) I g ry fun w' s3 I3 r3 => ⟨w0, H, I3, r3, q⟩
  have sub : wpAny (model X.prog X.w) X.A (subscripted slice false (.ref a) u) (fun r s₃ => wpAny (model X.prog X.w) X.A (letTemporaryGo value (.ref a) r >>= fun _ => pure r) (EP X pins σ Q) X.xe s₃) X.xe s := by
    rw [hs]
    exact wpAny_operating (wpAny_mono main (fun r s₃ h₃ => wpAny_bind (wpAny_letTemporaryGo (wpAny_pure h₃))) fun _ _ x => x)
  unfold subscriptTail
  refine wpAny_bind ?_
  rw [getitemInPython_of_ne hT.not_modules]
  refine wpAny_bind (wpAny_specialOf hT PySem.F.slot_dict_getitem.lookup ?_)
  first
    | exact wpAny_pure (wpAny_bind sub)
    | exact wpAny_pure (wpAny_pure (wpAny_bind sub))
    | exact wpAny_bind (wpAny_pure (wpAny_pure (wpAny_bind sub)))
def rIxU (K : PySem.W.Frag) : R2 := fun x y H Q => (rIxL K x y H Q ∨ rIxT K x y H Q) ∨ (rIxS x y H Q ∨ rDGetU x y H Q)
theorem o_ix {X : Cx} (K : PySem.W.Frag) (hu : X.A.units + 64 < cLine) (h : X.K = K := by rfl) : IxR X (rIxU K) := by
  subst h
  exact IxR.or (IxR.or ix_list ix_tup) (IxR.or ix_str (ix_dict hu))
theorem f_ix : Fn2T C (rIxU C.K) fIx := by
  intro d v Fd d' v' Fd' Z H F Q e o rd rd' hf p
  unfold fIx at hf
  split at hf
  · obtain ⟨_, a, vs, rfl, h1, h2⟩ := rd.tupP o.zh
    obtain ⟨u, Fe, e1, e2⟩ := h2.atI hf
    exact .inl (.inr ⟨a, vs, _, u, rfl, rd'.intI, h1, e1, p u Fe e2⟩)
  · obtain ⟨a, vs, G, rfl, h1, h2⟩ := rd.lstD o.zh rfl
    obtain ⟨u, Fe, e1, e2⟩ := h2.atI hf
    exact .inl (.inl ⟨a, vs, _, u, rfl, rd'.intI, h1, e1, p u Fe e2⟩)
  · obtain ⟨a, vs, G, rfl, h1, h2⟩ := rd.lstD o.zh rfl
    obtain ⟨u, Fe, e1, e2⟩ := h2.atI hf
    exact .inl (.inl ⟨a, vs, _, u, rfl, rd'.intI, h1, e1, p u Fe e2⟩)
  · split at hf
    · rename_i q
      rw [Option.map_eq_some_iff] at hf
      obtain ⟨c, hc, rfl⟩ := hf
      exact .inr (.inl ⟨_, _, c, rd.strI, rd'.intI, q, hc, p _ [] rd_str⟩)
    · cases hf
  · split at hf
    · rename_i ow kvs k q hq
      obtain ⟨a, us, G, rfl, h1, h2⟩ := rd.dctP o.zh
      obtain rfl := kD_key hq
      have e1 := rd'.key hq
      subst e1
      rcases h2.val (k := q) with ⟨z1, z2⟩ | ⟨x, y, F1, z1, z2, z3⟩
      · rw [z1] at hf; cases hf
      · rw [z1] at hf
        cases hf
        refine .inr (.inr ⟨a, y, rfl, ?_, p y F1 z3⟩)
        rw [← z2]
        exact DGet.kd h1
    · cases hf
  · cases hf
end
end Mi
set_option maxHeartbeats 4000000
namespace Mi
open PySem PySem.Spec PyProof.Rows L2 RZ Ov
section
variable {N : Cn} {C : Ct} {Z H Z' H' : Hp} {F F' G Fv : List Addr} {σ : L2.St}
/-! ### frozen -/
def eFz (m : ME) : ME := fun env => (m env).bind fun d e => .ok (fz d) e
theorem re_fz {st : Bool} {t : TE} {m : ME} (h : RefE N st t m) : RefE N st t (eFz m) := fun env σ Z H F Q o r w => by
  refine h.freeze env σ Z H F Q o r (w.bind.mono (Pin.refl _ _) (Ext.refl o) ?_)
  intro d env1 k v Z1 H1 F1 x rv r1 s1
  exact k v Z1 H1 [] F1 x rv r1 s1
/-! ### slices -/
def cutA {α : Type} (xs : List α) (lo hi : Option Int) : List α := (xs.drop (HT.sIx xs.length 0 lo)).take (HT.sIx xs.length xs.length hi - HT.sIx xs.length 0 lo)
theorem RdL.cut {ds : List D} {vs : List V} {lo hi : Option Int} (h : RdL C Z H ds vs []) : RdL C Z H (cutA ds lo hi) (cutV vs lo hi) [] := by
  unfold cutA cutV
  rw [h.length]
  exact (h.drop0 _).take0 _
def fSl : D → Option Int → Option Int → Option D
  | .tup ds, lo, hi => some (.tup (cutA ds lo hi))
  | .lst _ ds, lo, hi => if fznL ds then some (.lst true (cutA ds lo hi)) else none
  | .str x, lo, hi => if x.length ≤ sizeLine then some (.str (cutS x lo hi)) else none
  | _, _, _ => none
def rSlU2 (K : PySem.W.Frag) : V → Option Int → Option Int → Hp → VK → Prop := fun x lo hi H Q => rSlL K x lo hi H Q ∨ (rSlA K x lo hi H Q ∨ rSlS x lo hi H Q)
theorem o_sl {X : Cx} (K : PySem.W.Frag) (h : X.K = K := by rfl) : SlR X (rSlU2 K) := by
  subst h
  exact SlR.or sl_list (SlR.or sl_tupA sl_str)
abbrev MO := Env → R (Option Int)
def oN : MO := fun env => .ok none env
def oS (m : ME) : MO := fun env => (m env).bind fun d e => match d with | .int i => .ok (some i) e | _ => .no
def RefO (N : Cn) (t : TO) (m : MO) : Prop := ∀ env σ Z H F Q, Ok N.C.T Z H F → RdE N.C Z H env σ F →
  Wp N σ Z H F (m env) (fun l env' => ∀ Z' H' F', Ext N.C.T Z H F Z' H' F' → RdE N.C Z' H' env' σ F' → Same H H' → Q l H') → t σ H Q
theorem ro_n : RefO N tNoPart oN := fun env σ Z H F Q o r w => w Z H F (Ext.refl o) r (Same.refl _)
theorem ro_s {t : TE} {m : ME} (h : RefT N true t m) : RefO N (tPart t) (oS m) := fun env σ Z H F Q o r w => by
  refine h env σ Z H F _ o r (w.bind.mono (Pin.refl _ _) (Ext.refl o) ?_)
  intro d env1 k v Z1 H1 Fd F1 x rd r1 s1
  cases d with
  | int i => exact ⟨i, rd.intI, k Z1 H1 F1 x r1 (s1 rfl)⟩
  | _ => exact k.elim
def eSl (m : ME) (lo hi : MO) : ME := fun env => (m env).bind fun d e => (lo e).bind fun l e => (hi e).bind fun h e => lift (fSl d l h) e
theorem re_sl {s1 : Bool} {t : TE} {tl th : TO} {m : ME} {lo hi : MO} (h : RefT N s1 t m) (hl : RefO N tl lo) (hh : RefO N th hi) : RefE N s1 (tSl (rSlU2 N.C.K) t tl th) (eSl m lo hi) := fun env σ Z H F Q o re w => by
  refine h env σ Z H F _ o re (w.bind.mono (Pin.refl _ _) (Ext.refl o) ?_)
  intro d env1 k v Z1 H1 Fd F1 x1 rd r1 sm1
  refine hl env1 σ Z1 H1 F1 _ x1.ok r1 ((Wp.bind (k.mono (Pin.refl _ _) x1 fun _ _ z => z)).mono (Pin.refl _ _) (Ext.refl x1.ok) ?_)
  intro l env2 k2 Z2 H2 F2 x2 r2 sm2
  refine hh env2 σ Z2 H2 F2 _ x2.ok r2 ((Wp.bind (k2.mono (Pin.refl _ _) x2 fun _ _ z => z)).mono (Pin.refl _ _) (Ext.refl x2.ok) ?_)
  intro u env3 k3 Z3 H3 F3 x3 r3 sm3
  obtain ⟨e, he⟩ := wp_lift k3
  have P := post_end ((x1.trans x2).trans x3) r3 (fun z => ((sm1 z).trans sm2).trans sm3) he k3
  have rd := (rd.same x2.zz sm2).same x3.zz sm3
  clear k3 k2 k w
  unfold fSl at he
  split at he
  · rename_i ds
    cases he
    have rd0 := rd
    obtain ⟨_, a, vs, rfl, h1, h2⟩ := rd.tupP x3.ok.zh
    refine .inr (.inl ⟨a, vs, rfl, h1, fun hw => ?_, fun _ p hp => post_tup x3.ok P hp h2.cut⟩)
    refine post_val x3.ok P ?_
    have : ∀ {ds : List D} {l u : Option Int}, RdL N.C Z3 H3 ds vs [] → HT.sIx vs.length 0 l = 0 ∧ HT.sIx vs.length vs.length u = vs.length → cutA ds l u = ds := by
      intro ds l u h2 hw
      unfold cutA
      rw [h2.length, hw.1, hw.2]
      rw [← h2.length]
      simp
    rw [this h2 hw]
    rw [RdV] at rd0 ⊢
    exact ⟨rfl, rd0.2⟩
  · split at he
    · rename_i q
      cases he
      obtain ⟨a, vs, G, rfl, h1, h2⟩ := rd.lstD x3.ok.zh rfl
      exact .inl ⟨a, vs, rfl, h1, fun p hp => post_lst x3.ok P hp (h2.nof q).cut⟩
    · cases he
  · split at he
    · rename_i q
      cases he
      exact .inr (.inr ⟨_, rd.strI, q, post_val x3.ok P rd_str⟩)
    · cases he
  · cases he
/-! ### built-ins -/
def intsD : List D → Option (List Int)
  | [] => some []
  | .int i :: ds => (intsD ds).map (i :: ·)
  | _ => none
def boolsD : List D → Option (List Bool)
  | [] => some []
  | .bl i :: ds => (boolsD ds).map (i :: ·)
  | _ => none
@[simp] theorem intsD_ofMap (ns : List Int) : intsD (ns.map D.int) = some ns := by
  induction ns with
  | nil => rfl
  | cons n r ih => simp [intsD, ih]
theorem RdL.bools : ∀ {ds : List D} {vs : List V} {F : List Addr} {ns : List Bool}, RdL C Z H ds vs F → boolsD ds = some ns → vs = ns.map V.bl
  | [], _, _, ns, h, e => by rw [RdL] at h; rw [h.1]; cases e; rfl
  | d :: ds, _, _, ns, h, e => by
    rw [RdL] at h
    obtain ⟨v, r, F1, F2, rfl, _, h3, h4⟩ := h
    cases d with
    | bl i =>
      rw [boolsD, Option.map_eq_some_iff] at e
      obtain ⟨l, e, rfl⟩ := e
      rw [h3.blI, RdL.bools h4 e]; rfl
    | _ => simp [boolsD] at e
theorem RdL.ofInts : ∀ {ns : List Int}, RdL C Z H (ns.map D.int) (ns.map V.int) []
  | [] => RdL.nil0
  | n :: ns => RdL.cons0 rd_int RdL.ofInts
def fLen : List D → Option D
  | [.tup ds] => some (.int ds.length)
  | [.lst _ ds] => some (.int ds.length)
  | [.scr ds] => some (.int ds.length)
  | [.str x] => if x.length ≤ sizeLine then some (.int x.length) else none
  | [.dct _ kvs] => some (.int kvs.length)
  | [.set (.non :: ks)] => some (.int ks.length)
  | [.set ks] => match intsD ks with | some ns => some (.int ns.length) | none => none
  | _ => none
def rLenSetK (P : Program) (w : World) : List V → Hp → VK → Prop := fun xs H Q => ∃ a S n, xs = [V.ref a] ∧ H a = some (SetK P w a S n) ∧ Q (.int (n : Int)) H
theorem call_lenSetK {X : Cx} : CallR X (.builtin "len") (rLenSetK X.prog X.w) := by
  intro pins s σ H xs us Q I r h
  obtain ⟨a, S, n, rfl, ha, q⟩ := h
  rw [Vals.ref1 r]
  obtain ⟨o, es, ep, t, ho, hex, hd, g, hm, hb, hf, hn⟩ := setK_get I ha
  refine call_len_set ho hex hd hf ?_ ⟨.int _, H, I.tok _, ⟨_, rfl⟩, ?_⟩
  · have : es.size < scanBound := hb
    have h2 : scanBound < 2 ^ 63 := by decide
    omega
  · rw [hn]; exact q
def rLenSetO (w : World) : List V → Hp → VK → Prop := fun xs H Q => ∃ a S n, xs = [V.ref a] ∧ H a = some (SetO w a S n) ∧ Q (.int (n : Int)) H
theorem call_lenSetO {X : Cx} : CallR X (.builtin "len") (rLenSetO X.w) := by
  intro pins s σ H xs us Q I r h
  obtain ⟨a, S, n, rfl, ha, q⟩ := h
  rw [Vals.ref1 r]
  obtain ⟨o, es, ep, t, ho, hex, hd, g, hm, hb, hf, hn⟩ := (setO_get I ha).setOf (P := X.prog)
  refine call_len_set ho hex hd hf ?_ ⟨.int _, H, I.tok _, ⟨_, rfl⟩, ?_⟩
  · have : es.size < scanBound := hb
    have h2 : scanBound < 2 ^ 63 := by decide
    omega
  · rw [hn]; exact q
def rLenU (K : PySem.W.Frag) (P : Program) (w : World) : List V → Hp → VK → Prop := fun xs H Q => (rLenS K xs H Q ∨ (∃ z, xs = [.str z] ∧ z.length ≤ sizeLine ∧ Q (.int z.length) H)) ∨
  ((∃ a kvs, xs = [V.ref a] ∧ H a = some (.dK kvs) ∧ Q (.int kvs.length) H) ∨ (rLenSetK P w xs H Q ∨ rLenSetO w xs H Q))
theorem o_len {X : Cx} (C : Ct) (h : X.K = C.K := by rfl) (h2 : X.prog = C.P := by rfl) (h3 : X.w = C.w := by rfl) : CallR X (.builtin "len") (rLenU C.K C.P C.w) := by
  rw [← h, ← h2, ← h3]
  exact CallR.or (CallR.or call_len_seq call_len_str) (CallR.or call_lenD (CallR.or call_lenSetK call_lenSetO))
theorem RdK.length : ∀ {kvs : List (D × D)} {us : List (Key × V)} {F : List Addr}, RdK C Z H kvs us F → kvs.length = us.length
  | [], _, _, h => by rw [RdK] at h; rw [h.1]; rfl
  | (k, d) :: r, _, _, h => by
    rw [RdK] at h
    obtain ⟨q, v, s, F1, F2, rfl, _, _, _, h⟩ := h
    simp [RdK.length h]
theorem f_len : FnL C (rLenU C.K C.P C.w) fLen := by
  intro ds vs Z H F Q e o ra hf p
  unfold fLen at hf
  split at hf
  · obtain ⟨v, F1, rfl, h⟩ := ra.one
    cases hf
    obtain ⟨_, a, us, rfl, h1, h2⟩ := h.tupP o.zh
    exact .inl (.inl ⟨a, us, rfl, .inr h1, by rw [← h2.length]; exact post_val o p rd_int⟩)
  · obtain ⟨v, F1, rfl, h⟩ := ra.one
    cases hf
    obtain ⟨a, us, G, rfl, h1, h2⟩ := h.lstD o.zh rfl
    exact .inl (.inl ⟨a, us, rfl, .inl h1, by rw [← h2.length]; exact post_val o p rd_int⟩)
  · obtain ⟨v, F1, rfl, h⟩ := ra.one
    cases hf
    obtain ⟨a, us, G, rfl, h1, h2⟩ := h.lstD o.zh rfl
    exact .inl (.inl ⟨a, us, rfl, .inl h1, by rw [← h2.length]; exact post_val o p rd_int⟩)
  · split at hf
    · rename_i q
      obtain ⟨v, F1, rfl, h⟩ := ra.one
      cases hf
      exact .inl (.inr ⟨_, by rw [h.strI], q, post_val o p rd_int⟩)
    · cases hf
  · obtain ⟨v, F1, rfl, h⟩ := ra.one
    cases hf
    obtain ⟨a, us, G, rfl, h1, h2⟩ := h.dctP o.zh
    exact .inr (.inl ⟨a, us, rfl, h1, by rw [← h2.length]; exact post_val o p rd_int⟩)
  · obtain ⟨v, F1, rfl, h⟩ := ra.one
    cases hf
    rw [RdV] at h
    obtain ⟨_, a, ob, rfl, h1, h2⟩ := h
    have h1 := o.zh _ _ h1
    rcases h2 with ⟨qs, e, _, rfl⟩ | ⟨ns, e, _, rfl⟩ | ⟨ls, e, _⟩
    · cases e
      refine .inr (.inr (.inl ⟨a, _, _, rfl, h1, ?_⟩))
      rw [List.length_map] at p
      exact post_val o p rd_int
    · cases ns <;> cases e
    · cases e
  · split at hf
    case h_2 => cases hf
    rename_i ns hn
    obtain ⟨v, F1, rfl, h⟩ := ra.one
    cases hf
    rw [RdV] at h
    obtain ⟨_, a, ob, rfl, h1, h2⟩ := h
    have h1 := o.zh _ _ h1
    rcases h2 with ⟨qs, e, _, rfl⟩ | ⟨ms, e, _, rfl⟩ | ⟨ls, e, _⟩
    · subst e
      simp [intsD] at hn
    · subst e
      rw [intsD_ofMap] at hn
      cases hn
      exact .inr (.inr (.inr ⟨a, _, _, rfl, h1, post_val o p rd_int⟩))
    · subst e
      simp [intsD] at hn
  · cases hf
def fAbs : List D → Option D
  | [.int i] => some (.int (if i < 0 then -i else i))
  | _ => none
theorem f_abs : FnL C (fun xs H Q => ∃ i, xs = [.int i] ∧ Q (.int (if i < 0 then -i else i)) H) fAbs := by
  intro ds vs Z H F Q e o ra hf p
  unfold fAbs at hf
  split at hf
  · obtain ⟨v, F1, rfl, h⟩ := ra.one
    cases hf
    exact ⟨_, by rw [h.intI], post_val o p rd_int⟩
  · cases hf
def fMax2 : List D → Option D
  | [.int i, .int j] => some (.int (if j > i then j else i))
  | _ => none
theorem f_max2 : FnL C (fun xs H Q => ∃ i j, xs = [.int i, .int j] ∧ Q (.int (if j > i then j else i)) H) fMax2 := by
  intro ds vs Z H F Q e o ra hf p
  unfold fMax2 at hf
  split at hf
  · obtain ⟨v, F1, w, F2, rfl, h, h2⟩ := ra.two
    cases hf
    exact ⟨_, _, by rw [h.intI, h2.intI], post_val o p rd_int⟩
  · cases hf
def fMin2 : List D → Option D
  | [.int i, .int j] => some (.int (if j < i then j else i))
  | _ => none
theorem f_min2 : FnL C (fun xs H Q => ∃ i j, xs = [.int i, .int j] ∧ Q (.int (if j < i then j else i)) H) fMin2 := by
  intro ds vs Z H F Q e o ra hf p
  unfold fMin2 at hf
  split at hf
  · obtain ⟨v, F1, w, F2, rfl, h, h2⟩ := ra.two
    cases hf
    exact ⟨_, _, by rw [h.intI, h2.intI], post_val o p rd_int⟩
  · cases hf
def fInt : List D → Option D
  | [.int i] => some (.int i)
  | [.bl k] => some (.int (if k then 1 else 0))
  | _ => none
theorem f_int : FnL C (fun xs H Q => (∃ i, xs = [.int i] ∧ Q (.int i) H) ∨ ∃ k, xs = [.bl k] ∧ Q (.int (if k then 1 else 0)) H) fInt := by
  intro ds vs Z H F Q e o ra hf p
  unfold fInt at hf
  split at hf
  · obtain ⟨v, F1, rfl, h⟩ := ra.one
    cases hf
    exact .inl ⟨_, by rw [h.intI], post_val o p rd_int⟩
  · obtain ⟨v, F1, rfl, h⟩ := ra.one
    cases hf
    exact .inr ⟨_, by rw [h.blI], post_val o p rd_int⟩
  · cases hf
def lBools : List D → Option (List Bool)
  | [.lst _ ds] => boolsD ds
  | _ => none
theorem RdA.lBools {ds : List D} {vs : List V} {ns : List Bool} (o : Ok C.T Z H F) (ra : RdA C Z H ds vs) (e : Mi.lBools ds = some ns) : ∃ a, vs = [.ref a] ∧ SqL C.K H a (ns.map V.bl) := by
  unfold Mi.lBools at e
  split at e
  · obtain ⟨v, F1, rfl, h⟩ := ra.one
    obtain ⟨a, us, G, rfl, h1, h2⟩ := h.lstD o.zh rfl
    exact ⟨a, rfl, by rw [← h2.bools e]; exact h1⟩
  · cases e
def fAll (ds : List D) : Option D := (lBools ds).map fun bs => .bl (bs.all id)
theorem f_all : FnL C (rAll C.K) fAll := by
  intro ds vs Z H F Q e o ra hf p
  unfold fAll at hf
  rw [Option.map_eq_some_iff] at hf
  obtain ⟨ns, h, rfl⟩ := hf
  obtain ⟨a, rfl, h1⟩ := ra.lBools o h
  exact ⟨a, ns, rfl, h1, post_val o p rd_bl⟩
/-! ### sorted -/
/-! ### tuple, list, repr, isinstance -/
def fTuple : List D → Option D
  | [.tup ds] => some (.tup ds)
  | [.lst _ ds] => if fznL ds then some (.tup ds) else none
  | _ => none
theorem f_tuple : FnL C (fun xs H Q => ∃ p ys, xs = [.ref p] ∧ ((SqL C.K H p ys ∧ ∀ l, H l = none → Q (.ref l) (upd H l (.tup ys))) ∨ (SqT C.K H p ys ∧ Q (.ref p) H))) fTuple := by
  intro ds vs Z H F Q e o ra hf p
  unfold fTuple at hf
  split at hf
  · obtain ⟨v, F1, rfl, hd⟩ := ra.one
    cases hf
    have h0 := hd
    obtain ⟨_, a, us, rfl, h1, h2⟩ := hd.tupP o.zh
    refine ⟨a, us, rfl, .inr ⟨h1, post_val o p ?_⟩⟩
    rw [RdV] at h0 ⊢
    exact ⟨rfl, h0.2⟩
  · split at hf
    · rename_i q
      cases hf
      obtain ⟨v, F1, rfl, hd⟩ := ra.one
      obtain ⟨a, us, G, rfl, h1, h2⟩ := hd.lstD o.zh rfl
      exact ⟨a, us, rfl, .inl ⟨h1, fun l hl => post_tup o p hl (h2.nof q)⟩⟩
    · cases hf
  · cases hf
theorem o_tuple {X : Cx} (K : PySem.W.Frag) (h : X.K = K := by rfl) : CallR X (.type "tuple") (fun xs H Q => ∃ p ys, xs = [.ref p] ∧ ((SqL K H p ys ∧ ∀ l, H l = none → Q (.ref l) (upd H l (.tup ys))) ∨ (SqT K H p ys ∧ Q (.ref p) H))) := h ▸ call_tuple_of
def fList : List D → Option D
  | [.tup ds] => if fznL ds then some (.lst true ds) else none
  | [.lst _ ds] => if fznL ds then some (.lst true ds) else none
  | _ => none
def fRepr : List D → Option D
  | [d] => match toPy d with
    | some p => if p.showable && decide (p.depth ≤ 60) && decide (p.shown.length ≤ sizeLine) then some (.str p.shown) else none
    | none => none
  | _ => none
theorem f_repr : FnL C (fun xs H Q => ∃ x d, xs = [x] ∧ Dp C.K H x d ∧ d.showable = true ∧ d.depth ≤ 60 ∧ d.shown.length ≤ sizeLine ∧ Q (.str d.shown) H) fRepr := by
  intro ds vs Z H F Q e o ra hf p
  unfold fRepr at hf
  split at hf
  · split at hf
    · rename_i d pd hp
      split at hf
      · rename_i q
        cases hf
        simp only [Bool.and_eq_true, decide_eq_true_eq] at q
        obtain ⟨v, F1, rfl, hd⟩ := ra.one
        exact ⟨v, pd, rfl, RdV.dp o.zh _ v F1 pd hp hd, q.1.1, q.1.2, q.2, post_val o p rd_str⟩
      · cases hf
    · cases hf
  · cases hf
def kdD : D → Option Kd
  | .non => some .non
  | .bl _ => some .bl
  | .int _ => some .int
  | .str _ => some .str
  | .lst _ _ => some .lst
  | .scr _ => some .lst
  | .tup _ => some .tup
  | .dct _ _ => some .dic
  | _ => none
theorem RdV.kd {d : D} {v : V} {k : Kd} (o : Ok C.T Z H G) (h : RdV C Z H d v F) (e : kdD d = some k) : HasKd C.K H v k := by
  cases d with
  | non => cases e; rw [h.nonI]; exact .non
  | bl b => cases e; rw [h.blI]; exact .bl b
  | int b => cases e; rw [h.intI]; exact .int b
  | str b => cases e; rw [h.strI]; exact .str b
  | lst ow ds => cases e; obtain ⟨a, us, G, rfl, h1, h2⟩ := h.lstD o.zh rfl; exact .lst h1
  | scr ds => cases e; obtain ⟨a, us, G, rfl, h1, h2⟩ := h.lstD o.zh rfl; exact .lst h1
  | tup ds => cases e; obtain ⟨_, a, us, rfl, h1, h2⟩ := h.tupP o.zh; exact .tup h1
  | dct ow ds => cases e; obtain ⟨a, us, G, rfl, h1, h2⟩ := h.dctP o.zh; exact .dic h1
  | _ => cases e
/-- isinstance(x, T), T a built-in class: its name stands for it -/
def fIsa (f : Kd → Bool) : D → Option D := fun d => (kdD d).map fun k => .bl (f k)
end
end Mi
set_option maxHeartbeats 4000000
namespace Mi
open PySem PySem.Spec PyProof.Rows L2 RZ Ov
section
variable {N : Cn} {C : Ct} {Z H Z' H' : Hp} {F F' G Fv : List Addr} {σ : L2.St}
/-! ### attributes -/
def FldOk (C : Ct) (c f : String) : Prop := ∃ Ca, C.cls c = some Ca ∧ Cls C.K Ca ∧ NoAttr C.K Ca (PySem.Str.ofString f)
def eFld (cs : List String) (f : String) (m : ME) : ME := fun env => (m env).bind fun d e => match d with
  | .ins _ c fs => if cs.contains c then lift (fs.lookup f) e else .no
  | _ => .no
theorem rt_fld {st : Bool} {cs : List String} {f : String} {t : TE} {m : ME} (hc : ∀ c ∈ cs, FldOk N.C c f) (h : RefT N st t m) : RefT N st (tFld N.C.K t (PySem.Str.ofString f)) (eFld cs f m) := fun env σ Z H F Q o re w => by
  refine h env σ Z H F _ o re (w.bind.mono (Pin.refl _ _) (Ext.refl o) ?_)
  intro d env1 k v Z1 H1 Fd F1 x rd r1 sm
  cases d with
  | ins ow c fs =>
    by_cases hcc : cs.contains c = true
    · simp only [hcc, if_true] at k
      obtain ⟨e, he⟩ := wp_lift k
      rw [he] at k
      obtain ⟨a, Ca, dx, us, G, rfl, h2, h3, h4⟩ := rd.inst x.ok.zh
      obtain ⟨u, F1', F2', g1, g2, _⟩ := h4.get he
      obtain ⟨Cb, q1, q2, q3⟩ := hc c (by simpa using hcc)
      rw [h2] at q1
      cases q1
      exact ⟨a, Ca, dx, us, u, rfl, h3, q2, q3, g1, k u Z1 H1 F1' F1 x g2 r1 sm⟩
    · simp only [hcc] at k
      exact k.elim
  | _ => exact k.elim
/-! ### places: a name, an attribute of a name -/
def putD (f : String) (d : D) : List (String × D) → List (String × D)
  | [] => [(f, d)]
  | (g, x) :: r => if g = f then (g, d) :: r else (g, x) :: putD f d r
abbrev Plc := Nat × Option (List String × String)
def getP (env : Env) : Plc → Option D
  | (i, none) => match env[i]? with | some (some d) => some d | _ => none
  | (i, some (cs, f)) => match env[i]? with | some (some (.ins true c fs)) => if cs.contains c then fs.lookup f else none | _ => none
def setP (env : Env) : Plc → D → Env
  | (i, none), e => env.set i (some e)
  | (i, some (_, f)), e => match env[i]? with | some (some (.ins o c fs)) => env.set i (some (.ins o c (putD f e fs))) | _ => env
def tPlc (K : PySem.W.Frag) : Plc → TE
  | (i, none) => tVar i
  | (i, some (_, f)) => tFld K (tVar i) (PySem.Str.ofString f)
def PlcOk (C : Ct) : Plc → Prop
  | (_, none) => True
  | (_, some (cs, f)) => ∀ c ∈ cs, FldOk C c f
/-- what stands at a place -/
def ReadP (C : Ct) (H : Hp) (σ : L2.St) : Plc → V → Prop
  | (i, none), u => σ[i]? = some (some u)
  | (i, some (_, f)), u => ∃ a Ca dx us, σ[i]? = some (some (.ref a)) ∧ H a = some (.ins Ca dx us) ∧ Cls C.K Ca ∧ NoAttr C.K Ca (PySem.Str.ofString f) ∧ us.lookup (PySem.Str.ofString f) = some u
theorem readP {p : Plc} {u : V} {Q : VK} (h : ReadP C H σ p u) (q : Q u H) : tPlc C.K p σ H Q := by
  rcases p with ⟨i, _ | ⟨cs, f⟩⟩
  · exact ⟨u, h, q⟩
  · obtain ⟨a, Ca, dx, us, h1, h2, h3, h4, h5⟩ := h
    exact ⟨.ref a, h1, a, Ca, dx, us, u, rfl, h2, h3, h4, h5, q⟩
theorem ReadP.uniq {p : Plc} {u u' : V} (s : Same H H') (h : ReadP C H σ p u) (h' : ReadP C H' σ p u') : u' = u := by
  rcases p with ⟨i, _ | ⟨cs, f⟩⟩
  · have h : σ[i]? = some (some u) := h
    have h' : σ[i]? = some (some u') := h'
    rw [h] at h'
    cases h'
    rfl
  · obtain ⟨a, Ca, dx, us, h1, h2, h3, h4, h5⟩ := h
    obtain ⟨a', Ca', dx', us', g1, g2, g3, g4, g5⟩ := h'
    rw [h1] at g1
    cases g1
    rw [s _ _ h2] at g2
    cases g2
    rw [h5] at g5
    cases g5
    rfl
theorem ReadP.uniqV {i : Nat} {u u' : V} (h : ReadP C H σ (i, none) u) (h' : ReadP C H' σ (i, none) u') : u' = u := by
  have h : σ[i]? = some (some u) := h
  have h' : σ[i]? = some (some u') := h'
  rw [h] at h'
  cases h'
  rfl
theorem RdF.mono' (sz : Same Z Z') {fs : List (String × D)} {us : List (Str × V)} (h : ∀ a ∈ F, H' a = H a) (r : RdF C Z H fs us F) : RdF C Z' H' fs us F := RdF.mono sz fs us F h r
theorem RdF.focus : ∀ {fs : List (String × D)} {us : List (Str × V)} {F : List Addr} {f : String} {e : D}, RdF C Z H fs us F → fs.lookup f = some e →
    ∃ u Fe Fr, us.lookup (PySem.Str.ofString f) = some u ∧ RdV C Z H e u Fe ∧ F.Perm (Fe ++ Fr) ∧
      ∀ H' e' Fe', (∀ b ∈ Fr, H' b = H b) → RdV C Z H' e' u Fe' → ∃ F', F'.Perm (Fe' ++ Fr) ∧ RdF C Z H' (putD f e' fs) us F'
  | [], us, F, f, e, h, q => by cases q
  | (k, d0) :: fs, us, F, f, e, h, q => by
    rw [RdF] at h
    obtain ⟨v, s, F1, F2, rfl, rfl, rv, h⟩ := h
    rw [List.lookup] at q
    by_cases z : f = k
    · subst z
      rw [beq_self_eq_true] at q
      cases q
      refine ⟨v, F1, F2, by rw [List.lookup, beq_self_eq_true], rv, List.Perm.refl _, fun H' e' Fe' hb r' => ⟨Fe' ++ F2, List.Perm.refl _, ?_⟩⟩
      rw [putD, if_pos rfl, RdF]
      exact ⟨v, s, Fe', F2, rfl, rfl, r', RdF.mono' (Same.refl _) hb h⟩
    · have q1 : (f == k) = false := beq_eq_false_iff_ne.mpr z
      rw [q1] at q
      obtain ⟨u, Fe, Fr, h1, h2, h3, h4⟩ := RdF.focus h q
      have q2 : (PySem.Str.ofString f == PySem.Str.ofString k) = false := beq_eq_false_iff_ne.mpr fun y => z (ofString_inj y)
      refine ⟨u, Fe, F1 ++ Fr, by rw [List.lookup, q2]; exact h1, h2, ?_, fun H' e' Fe' hb r' => ?_⟩
      · refine (List.Perm.append_left F1 h3).trans ?_
        rw [← List.append_assoc, ← List.append_assoc]
        exact List.Perm.append_right Fr List.perm_append_comm
      · obtain ⟨F', g1, g2⟩ := h4 H' e' Fe' (fun b hb' => hb b (List.mem_append_right _ hb')) r'
        refine ⟨F1 ++ F', ?_, ?_⟩
        · refine (List.Perm.append_left F1 g1).trans ?_
          rw [← List.append_assoc, ← List.append_assoc]
          exact List.Perm.append_right Fr List.perm_append_comm
        · rw [putD, if_neg (Ne.symm z), RdF]
          exact ⟨v, s, F1, F', rfl, rfl, RdV.mono (Same.refl _) d0 v F1 (fun b hb' => hb b (List.mem_append_left _ hb')) rv, g2⟩
theorem lt_of_get {env : Env} {i : Nat} {x : Option D} (e : env[i]? = some x) : i < env.length := by
  rcases Nat.lt_or_ge i env.length with z | z
  · exact z
  · rw [List.getElem?_eq_none z] at e; cases e
theorem focus {env : Env} {p : Plc} {e : D} (hp : PlcOk C p) (r : RdE C Z H env σ F) (h : getP env p = some e) :
    ∃ u Fe Fr, ReadP C H σ p u ∧ RdV C Z H e u Fe ∧ F.Perm (Fe ++ Fr) ∧
      ∀ H' e' Fe', (∀ b ∈ Fr, H' b = H b) → RdV C Z H' e' u Fe' → ∃ F', F'.Perm (Fe' ++ Fr) ∧ RdE C Z H' (setP env p e') σ F' := by
  rcases p with ⟨i, _ | ⟨cs, f⟩⟩
  · change (match env[i]? with | some (some d) => some d | _ => none) = some e at h
    split at h
    · rename_i d q
      cases h
      obtain ⟨v, F1, F2, h1, h2, h3, h4⟩ := r.take q
      refine ⟨v, F1, F2, h1, h2, h3, fun H' e' Fe' hb r' => ?_⟩
      have h4' : RdE C Z H' (env.set i none) σ F2 := RdE.mono (Same.refl _) hb h4
      obtain ⟨F3, g1, g2⟩ := RdE.put (i := i) h4' (lt_of_get q) r'
      rw [set_same (env := env) h1] at g2
      exact ⟨F3, g1, g2⟩
    · cases h
  · change (match env[i]? with | some (some (.ins true c fs)) => if cs.contains c then fs.lookup f else none | _ => none) = some e at h
    split at h
    · rename_i c fs q
      split at h
      · rename_i hcc
        obtain ⟨v, F1, F2, h1, h2, h3, h4⟩ := r.take q
        rw [RdV] at h2
        obtain ⟨a, Ca, dx, us, G, rfl, h5, h6, rfl, h7⟩ := h2
        obtain ⟨u, Fe, Fr, g1, g2, g3, g4⟩ := RdF.focus h7 h
        obtain ⟨Cb, q1, q2, q3⟩ := hp c (by simpa using hcc)
        rw [h5] at q1
        cases q1
        refine ⟨u, Fe, a :: (Fr ++ F2), ⟨a, Ca, dx, us, h1, h6, q2, q3, g1⟩, g2, ?_, fun H' e' Fe' hb r' => ?_⟩
        · refine h3.trans ?_
          rw [List.cons_append]
          refine (List.Perm.cons a (List.Perm.append_right F2 g3)).trans ?_
          rw [List.append_assoc]
          exact List.perm_middle.symm
        · have hba : H' a = H a := hb a (List.mem_cons_self ..)
          have hbr : ∀ b ∈ Fr, H' b = H b := fun b hb' => hb b (List.mem_cons_of_mem _ (List.mem_append_left _ hb'))
          have hb2 : ∀ b ∈ F2, H' b = H b := fun b hb' => hb b (List.mem_cons_of_mem _ (List.mem_append_right _ hb'))
          obtain ⟨F3, k1, k2⟩ := g4 H' e' Fe' hbr r'
          have h4' : RdE C Z H' (env.set i none) σ F2 := RdE.mono (Same.refl _) hb2 h4
          have hv : RdV C Z H' (.ins true c (putD f e' fs)) (.ref a) (a :: F3) := by
            rw [RdV]
            exact ⟨a, Ca, dx, us, F3, rfl, h5, by rw [hba]; exact h6, rfl, k2⟩
          obtain ⟨F4, j1, j2⟩ := RdE.put (i := i) h4' (lt_of_get q) hv
          rw [set_same (env := env) h1] at j2
          refine ⟨F4, ?_, ?_⟩
          · refine j1.trans ?_
            rw [List.cons_append]
            refine (List.Perm.cons a (List.Perm.append_right F2 k1)).trans ?_
            rw [List.append_assoc]
            exact List.perm_middle.symm
          · have es : setP env (i, some (cs, f)) e' = env.set i (some (.ins true c (putD f e' fs))) := by
              show (match env[i]? with | some (some (.ins o c fs)) => env.set i (some (.ins o c (putD f e' fs))) | _ => env) = _
              rw [q]
            rw [es]
            exact j2
      · cases h
    · cases h
/-- the thing at a place is changed: it takes in what was held -/
theorem change {env : Env} {p : Plc} {e e' : D} {u : V} {a : Addr} {ob : HO} (hp : PlcOk C p) (o : Ok C.T Z H (Fv ++ F)) (r : RdE C Z H env σ F) (h : getP env p = some e) (hu : ReadP C H σ p u)
    (k : ∀ Fe, RdV C Z H e u Fe → ∃ Fe', a ∈ Fe ∧ Fe'.Perm (Fv ++ Fe) ∧ (a ∉ Fv → Fe.Nodup → RdV C Z (upd H a ob) e' u Fe')) (hnode : NodeO a ob := by exact node_of rfl) :
    ∃ F', Ext C.T Z H (Fv ++ F) Z (upd H a ob) F' ∧ RdE C Z (upd H a ob) (setP env p e') σ F' := by
  obtain ⟨u', Fe, Fr, h1, h2, h3, h4⟩ := focus hp r h
  have := ReadP.uniq (Same.refl _) hu h1
  subst this
  obtain ⟨Fe', g1, g2, g3⟩ := k Fe h2
  have nd := o.nd
  have pm : (Fv ++ F).Perm (Fv ++ (Fe ++ Fr)) := List.Perm.append_left Fv h3
  have nd2 := pm.nodup_iff.mp nd
  have haF : a ∈ F := h3.mem_iff.mpr (List.mem_append_left _ g1)
  have na : a ∉ Fv := fun z => (List.nodup_append.mp nd).2.2 a z a haF rfl
  have nr : a ∉ Fr := fun z => (List.nodup_append.mp (nodup_right nd2)).2.2 a g1 a z rfl
  obtain ⟨F', k1, k2⟩ := h4 (upd H a ob) e' Fe' (fun b hb => upd_ne fun z : b = a => nr (by rw [← z]; exact hb)) (g3 na (nodup_left (nodup_right nd2)))
  have pm2 : F'.Perm (Fv ++ F) := by
    refine k1.trans ((List.Perm.append_right Fr g2).trans ?_)
    rw [List.append_assoc]
    exact pm.symm
  refine ⟨F', (Ext.mut o (List.mem_append_right _ haF) hnode).sub (pm2.nodup_iff.mpr nd) fun b hb => pm2.mem_iff.mp hb, k2⟩
/-! ### x.append(e) -/
def plcSt (p : Plc) (st : Bool) : Bool := st || p.2.isNone
theorem place_same {st : Bool} {env1 : Env} {p : Plc} {u : V} {e1 : D} {Z1 H1 : Hp} {F1 : List Addr} (hp : PlcOk C p) (hs : plcSt p st = true) (g1 : ReadP C H σ p u) (r1 : RdE C Z1 H1 env1 σ F1) (q1 : getP env1 p = some e1) (sm : st = true → Same H H1) : ReadP C H1 σ p u := by
  obtain ⟨u', _, _, j1, _⟩ := focus hp r1 q1
  have : u' = u := by
    rcases p with ⟨i, _ | ⟨cs, f⟩⟩
    · exact ReadP.uniqV g1 j1
    · exact ReadP.uniq (sm (by simpa [plcSt] using hs)) g1 j1
  subst this
  exact j1
/-- a method of a list at a place, with arguments -/
def mList (p : Plc) (m : ML) (f : List D → List D → Option (D × List D)) : ME := fun env => match getP env p with
  | some (.lst true _) => (m env).bind fun as e => match getP e p with
    | some (.lst true ds) => (match f ds as with | some (d, ds') => .ok d (setP e p (.lst true ds')) | none => .no)
    | _ => .no
  | _ => .no
/-- what such a method may do: what it hands back is frozen, or was held -/
def FnM (C : Ct) (r : V → List V → Hp → VK → Prop) (f : List D → List D → Option (D × List D)) : Prop := ∀ ds as d ds' vs us G Fv Z H l Q, f ds as = some (d, ds') → Ok C.T Z H (Fv ++ (l :: G)) → H l = some (.lst vs) → RdL C Z H ds vs G → RdL C Z H as us Fv →
  (∀ vs' v Fd G', H l = some (.lst vs) → (Fd ++ G').Nodup → (∀ a ∈ Fd ++ G', a ∈ Fv ++ G) → RdL C Z H ds' vs' G' → RdV C Z H d v Fd → Q v (upd H l (.lst vs'))) → r (.ref l) us H Q
theorem re_list {st : Bool} {p : Plc} {r : V → List V → Hp → VK → Prop} {f : List D → List D → Option (D × List D)} {t : TA} {m : ML} (hf : FnM N.C r f) (hp : PlcOk N.C p) (h : RefA N st t m) (hs : plcSt p st = true) :
    RefE N false (tBM N.C.K "list" r (tPlc N.C.K p) t) (mList p m f) := fun env σ Z H F Q o re w => by
  unfold mList at w
  split at w
  · rename_i ds0 q0
    obtain ⟨u, Fe, Fr, g1, g2, g3, g4⟩ := focus hp re q0
    refine readP g1 ⟨?_, ?_⟩
    · obtain ⟨a, vs, G, rfl, h1, h2⟩ := g2.lstD o.zh rfl
      exact .inl ⟨rfl, _, h1⟩
    refine h env σ Z H F _ o re (w.bind.mono (Pin.refl _ _) (Ext.refl o) ?_)
    intro as env1 k us Z1 H1 Fv F1 x1 rv r1 sm1
    split at k
    · rename_i ds q1
      have hu := place_same hp hs g1 r1 q1 sm1
      obtain ⟨u', Fe1, Fr1, j1, j2, j3, j4⟩ := focus hp r1 q1
      have eu := ReadP.uniq (Same.refl _) hu j1
      subst eu
      cases hfd : f ds as with
      | none => simp only [hfd] at k; exact k.elim
      | some pr =>
      obtain ⟨d, ds'⟩ := pr
      simp only [hfd] at k
      rw [RdV] at j2
      obtain ⟨l, vs, G, rfl, e1, rfl, e3⟩ := j2
      have pm : (Fv ++ F1).Perm (Fv ++ ((l :: G) ++ Fr1)) := List.Perm.append_left Fv j3
      have nd2 := pm.nodup_iff.mp x1.ok.nd
      have o2 : Ok N.C.T Z1 H1 (Fv ++ (l :: G)) := x1.ok.sub (by rw [← List.append_assoc] at nd2; exact nodup_left nd2) fun a ha => by
        refine pm.mem_iff.mpr ?_
        rw [← List.append_assoc]
        exact List.mem_append_left _ ha
      refine hf ds as d ds' vs us G Fv Z1 H1 l Q hfd o2 e1 e3 rv ?_
      intro vs' v Fd G' _ ndd sub rl rd
      have nl : l ∉ Fv ++ G := fun z => by
        have := o2.nd
        rw [List.nodup_append] at this
        rcases List.mem_append.mp z with z | z
        · exact this.2.2 l z l (List.mem_cons_self ..) rfl
        · exact (List.nodup_cons.mp this.2.1).1 z
      have nl' : l ∉ Fd ++ G' := fun z => nl (sub l z)
      have nr : l ∉ Fr1 := fun z => by
        have := nodup_right nd2
        exact (List.nodup_append.mp this).2.2 l (List.mem_cons_self ..) l z rfl
      obtain ⟨F3, k1, k2⟩ := j4 (upd H1 l (.lst vs')) (.lst true ds') (l :: G') (fun b hb => upd_ne fun z : b = l => nr (by rw [← z]; exact hb)) (by
        rw [RdV]
        exact ⟨l, vs', G', rfl, upd_same, rfl, rl.mut fun z => nl' (List.mem_append_right _ z)⟩)
      have hmem : l ∈ Fv ++ F1 := pm.mem_iff.mpr (by simp)
      have x2 := Ext.mut (o := .lst vs') x1.ok hmem
      refine k v Z1 _ Fd F3 (x1.trans (x2.sub ?_ fun a ha => ?_)) (rd.mut fun z => nl' (List.mem_append_left _ z)) k2 fun z => by cases z
      · have pm3 : (Fd ++ F3).Perm (l :: ((Fd ++ G') ++ Fr1)) := by
          refine (List.Perm.append_left Fd k1).trans ?_
          rw [List.cons_append]
          refine List.perm_middle.trans ?_
          rw [List.append_assoc]
        refine pm3.nodup_iff.mpr (List.nodup_cons.mpr ⟨fun z => ?_, List.nodup_append.mpr ⟨ndd, nodup_right (nodup_right nd2), fun a ha b hb e => ?_⟩⟩)
        · rcases List.mem_append.mp z with z | z
          · exact nl' z
          · exact nr z
        · subst e
          rcases List.mem_append.mp (sub a ha) with z | z
          · exact (List.nodup_append.mp nd2).2.2 a z a (List.mem_append_right _ hb) rfl
          · exact (List.nodup_append.mp (nodup_right nd2)).2.2 a (List.mem_cons_of_mem _ z) a hb rfl
      · refine pm.mem_iff.mpr ?_
        rcases List.mem_append.mp ha with z | z
        · rcases List.mem_append.mp (sub a (List.mem_append_left _ z)) with y | y
          · exact List.mem_append_left _ y
          · exact List.mem_append_right _ (List.mem_append_left _ (List.mem_cons_of_mem _ y))
        · rcases List.mem_append.mp (k1.mem_iff.mp z) with y | y
          · rcases List.mem_cons.mp y with y | y
            · subst y; simp
            · rcases List.mem_append.mp (sub a (List.mem_append_right _ y)) with y | y
              · exact List.mem_append_left _ y
              · exact List.mem_append_right _ (List.mem_append_left _ (List.mem_cons_of_mem _ y))
          · exact List.mem_append_right _ (List.mem_append_right _ y)
    · exact k.elim
  · exact w.elim
def fAppend : List D → List D → Option (D × List D)
  | ds, [d] => if ds.length < sizeLine then some (.non, ds ++ [d]) else none
  | _, _ => none
theorem m_append : FnM C rAppend fAppend := by
  intro ds as d ds' vs us G Fv Z H l Q hf o hl rl ra k
  unfold fAppend at hf
  split at hf
  · rename_i x
    split at hf
    · rename_i hz
      cases hf
      rw [RdL] at ra
      obtain ⟨v, r, F1, F2, rfl, rfl, rv, ra⟩ := ra
      rw [RdL] at ra
      obtain ⟨rfl, rfl⟩ := ra
      refine ⟨l, vs, v, rfl, rfl, hl, by rw [← rl.length]; exact hz, ?_⟩
      have nd := o.nd
      rw [List.append_nil] at nd
      have nd' := List.nodup_append.mp nd
      refine k (vs ++ [v]) .non [] (G ++ F1) hl ?_ ?_ (RdL.snoc rl rv) rd_non
      · rw [List.nil_append]
        refine List.nodup_append.mpr ⟨(List.nodup_cons.mp nd'.2.1).2, nd'.1, fun a ha b hb e => ?_⟩
        subst e
        exact nd'.2.2 a hb a (List.mem_cons_of_mem _ ha) rfl
      · intro a ha
        simp only [List.nil_append, List.mem_append, List.append_nil] at ha ⊢
        exact ha.symm
    · cases hf
  · cases hf
theorem RdL.appG : ∀ {ds es : List D} {vs us : List V} {G : List Addr}, RdL C Z H ds vs G → RdL C Z H es us [] → RdL C Z H (ds ++ es) (vs ++ us) G
  | [], es, vs, us, G, h, h2 => by rw [RdL] at h; rw [h.1, h.2]; exact h2
  | d :: ds, es, vs, us, G, h, h2 => by
    rw [RdL] at h
    obtain ⟨v, r, F1, F2, rfl, rfl, h3, h4⟩ := h
    rw [List.cons_append, List.cons_append, RdL]
    exact ⟨v, r ++ us, F1, F2, rfl, rfl, h3, RdL.appG h4 h2⟩
/-- xs.pop(), xs.pop(i) -/
def fPopAt : List D → List D → Option (D × List D)
  | ds, [.int i] => if -(2 ^ 63) ≤ i ∧ i < 2 ^ 63 then (match ixN ds.length i with
    | some k => (match ds[k]? with | some d => some (d, ds.eraseIdx k) | none => none)
    | none => none) else none
  | _, _ => none
theorem RdL.erase : ∀ {ds : List D} {vs : List V} {G : List Addr} {k : Nat} {d : D}, RdL C Z H ds vs G → ds[k]? = some d → ∃ v Fd G', vs[k]? = some v ∧ G.Perm (Fd ++ G') ∧ RdV C Z H d v Fd ∧ RdL C Z H (ds.eraseIdx k) (vs.eraseIdx k) G'
  | [], _, _, k, d, _, e => by simp at e
  | d0 :: ds, _, _, 0, d, h, e => by
    rw [RdL] at h
    obtain ⟨v, r, F1, F2, rfl, rfl, h3, h4⟩ := h
    cases e
    exact ⟨v, F1, F2, rfl, List.Perm.refl _, h3, h4⟩
  | d0 :: ds, _, _, k + 1, d, h, e => by
    rw [RdL] at h
    obtain ⟨v, r, F1, F2, rfl, rfl, h3, h4⟩ := h
    obtain ⟨v', Fd, G', g1, g2, g3, g4⟩ := RdL.erase h4 (show ds[k]? = some d from e)
    refine ⟨v', Fd, F1 ++ G', g1, ?_, g3, ?_⟩
    · refine (List.Perm.append_left F1 g2).trans ?_
      rw [← List.append_assoc, ← List.append_assoc]
      exact List.Perm.append_right G' List.perm_append_comm
    · rw [List.eraseIdx_cons_succ, List.eraseIdx_cons_succ, RdL]
      exact ⟨v, _, F1, G', rfl, rfl, h3, g4⟩
theorem m_popAt : FnM C rPopAt fPopAt := by
  intro ds as d ds' vs us G Fv Z H l Q hf o hl rl ra k
  unfold fPopAt at hf
  split at hf
  · rename_i i
    split at hf
    case isFalse => cases hf
    rename_i hb
    cases hk : ixN ds.length i with
    | none => simp only [hk] at hf; cases hf
    | some j =>
      simp only [hk] at hf
      cases hd : ds[j]? with
      | none => simp only [hd] at hf; cases hf
      | some x =>
        simp only [hd] at hf
        cases hf
        obtain ⟨v, Fd, G', g1, g2, g3, g4⟩ := RdL.erase rl hd
        rw [RdL] at ra
        obtain ⟨z, r, F1, F2, rfl, rfl, rz, ra⟩ := ra
        rw [RdL] at ra
        obtain ⟨rfl, rfl⟩ := ra
        obtain ⟨q1, q2, q3, q4⟩ := ixN_seq hk
        refine ⟨l, vs, i, j, v, rfl, by rw [rz.intI], hl, hb.1, hb.2, by rw [← rl.length]; exact q1, g1, ?_⟩
        · have nd' := List.nodup_append.mp o.nd
          have ndG := (List.nodup_cons.mp nd'.2.1).2
          exact k _ v Fd G' hl (g2.nodup_iff.mp ndG) (fun a ha => List.mem_append_right _ (g2.mem_iff.mpr ha)) g4 g3
  · cases hf
end
end Mi
set_option maxHeartbeats 4000000
namespace Mi
open PySem PySem.Spec PyProof.Rows L2 RZ Ov
section
variable {N : Cn} {C : Ct} {Z H Z' H' : Hp} {F F' G Fv : List Addr} {σ : L2.St}
/-! ### xs.pop() -/
/-! ### x[i] = e -/
def putKD (kvs : List (D × D)) (k d : D) : List (D × D) := if (lookD kvs k).isSome then kvs.map (fun p => if eqF p.1 k then (p.1, d) else p) else kvs ++ [(k, d)]
theorem RdK.mapv : ∀ {kvs : List (D × D)} {us : List (Key × V)} {F : List Addr} {k : Key} {d : D} {v : V}, RdV C Z H d v [] → RdK C Z H kvs us F →
    ∃ F', F'.Sublist F ∧ RdK C Z H (kvs.map fun p => if eqF p.1 (kD k) then (p.1, d) else p) (us.map fun kv => if kv.1 = k then (kv.1, v) else kv) F'
  | [], _, _, k, d, v, _, h => by rw [RdK] at h; rw [h.1]; exact ⟨[], List.nil_sublist _, by simp [RdK]⟩
  | (k0, d0) :: r, _, _, k, d, v, rv, h => by
    rw [RdK] at h
    obtain ⟨q, v0, s, F1, F2, rfl, rfl, rfl, r0, h⟩ := h
    obtain ⟨F3, s3, r3⟩ := RdK.mapv (k := k) rv h
    rw [List.map_cons, List.map_cons]
    by_cases e : q = k
    · subst e
      rw [if_pos rfl, if_pos (by rw [eqF_kD]; simp)]
      refine ⟨F3, s3.trans (List.sublist_append_right ..), ?_⟩
      rw [RdK]
      exact ⟨q, v, _, [], F3, rfl, rfl, rfl, rv, r3⟩
    · rw [if_neg e, if_neg (by rw [eqF_kD]; simp [e])]
      refine ⟨F1 ++ F3, List.Sublist.append_left s3 F1, ?_⟩
      rw [RdK]
      exact ⟨q, v0, _, F1, F3, rfl, rfl, rfl, r0, r3⟩
theorem RdK.snoc : ∀ {kvs : List (D × D)} {us : List (Key × V)} {F F2 : List Addr} {k : Key} {d : D} {v : V}, RdV C Z H d v F2 → RdK C Z H kvs us F → RdK C Z H (kvs ++ [(kD k, d)]) (us ++ [(k, v)]) (F ++ F2)
  | [], _, _, F2, k, d, v, rv, h => by
    rw [RdK] at h
    rw [h.1, h.2, List.nil_append, List.nil_append, List.nil_append, RdK]
    exact ⟨k, v, [], F2, [], rfl, by simp, rfl, rv, by simp [RdK]⟩
  | (k0, d0) :: r, _, _, F2, k, d, v, rv, h => by
    rw [RdK] at h
    obtain ⟨q, v0, s, F1, F3, rfl, rfl, rfl, r0, h⟩ := h
    rw [List.cons_append, List.cons_append, RdK]
    exact ⟨q, v0, s ++ [(k, v)], F1, F3 ++ F2, rfl, by simp, rfl, r0, RdK.snoc rv h⟩
theorem RdK.put0 {kvs : List (D × D)} {us : List (Key × V)} {k : Key} {d : D} {v : V} (rv : RdV C Z H d v []) (h : RdK C Z H kvs us F) :
    ∃ F', F'.Sublist F ∧ RdK C Z H (putKD kvs (kD k) d) (putK us k v) F' := by
  unfold putKD putK
  rw [valV_any]
  rcases h.val (k := k) with ⟨z1, z2⟩ | ⟨x, y, F1, z1, z2, _⟩
  · rw [z1, z2]
    simp only [Option.isSome_none, Bool.false_eq_true, if_false]
    exact ⟨F ++ [], by simp, RdK.snoc rv h⟩
  · rw [z1, z2]
    simp only [Option.isSome_some, if_true]
    exact RdK.mapv rv h
theorem RdK.mut {a : Addr} {o : HO} {d : List (D × D)} {v : List (Key × V)} (h : RdK C Z H d v F) (n : a ∉ F) : RdK C Z (upd H a o) d v F :=
  RdK.mono (Same.refl _) d v F (fun b hb => upd_ne fun z : b = a => n (by rw [← z]; exact hb)) h
theorem RdL.set : ∀ {ds : List D} {vs : List V} {G Fd : List Addr} {j : Nat} {d : D} {v : V}, RdL C Z H ds vs G → RdV C Z H d v Fd → (Fd ++ G).Nodup → ∃ G', G'.Nodup ∧ (∀ a ∈ G', a ∈ Fd ++ G) ∧ RdL C Z H (ds.set j d) (vs.set j v) G'
  | [], vs, G, Fd, j, d, v, h, rv, nd => by
    rw [RdL] at h
    rw [h.1, h.2]
    refine ⟨[], List.nodup_nil, ?_, RdL.nil0⟩
    intro a ha
    cases ha
  | d0 :: ds, _, _, Fd, 0, d, v, h, rv, nd => by
    rw [RdL] at h
    obtain ⟨v0, r, F1, F2, rfl, rfl, h3, h4⟩ := h
    refine ⟨Fd ++ F2, ?_, ?_, ?_⟩
    · refine List.nodup_append.mpr ⟨nodup_left nd, nodup_right (nodup_right nd), fun a ha b hb e => ?_⟩
      subst e
      exact (List.nodup_append.mp nd).2.2 a ha a (List.mem_append_right _ hb) rfl
    · intro a ha
      rcases List.mem_append.mp ha with z | z
      · exact List.mem_append_left _ z
      · exact List.mem_append_right _ (List.mem_append_right _ z)
    · rw [List.set_cons_zero, List.set_cons_zero, RdL]
      exact ⟨v, r, Fd, F2, rfl, rfl, rv, h4⟩
  | d0 :: ds, _, _, Fd, j + 1, d, v, h, rv, nd => by
    rw [RdL] at h
    obtain ⟨v0, r, F1, F2, rfl, rfl, h3, h4⟩ := h
    have nd2 : (Fd ++ F2).Nodup := List.nodup_append.mpr ⟨nodup_left nd, nodup_right (nodup_right nd), fun a ha b hb e => by
      subst e
      exact (List.nodup_append.mp nd).2.2 a ha a (List.mem_append_right _ hb) rfl⟩
    obtain ⟨G', g1, g2, g3⟩ := RdL.set (j := j) h4 rv nd2
    refine ⟨F1 ++ G', ?_, ?_, ?_⟩
    · refine List.nodup_append.mpr ⟨nodup_left (nodup_right nd), g1, fun a ha b hb e => ?_⟩
      subst e
      rcases List.mem_append.mp (g2 a hb) with z | z
      · exact (List.nodup_append.mp nd).2.2 a z a (List.mem_append_left _ ha) rfl
      · exact (List.nodup_append.mp (nodup_right nd)).2.2 a ha a z rfl
    · intro a ha
      rcases List.mem_append.mp ha with z | z
      · exact List.mem_append_right _ (List.mem_append_left _ z)
      · rcases List.mem_append.mp (g2 a z) with y | y
        · exact List.mem_append_left _ y
        · exact List.mem_append_right _ (List.mem_append_right _ y)
    · rw [List.set_cons_succ, List.set_cons_succ, RdL]
      exact ⟨v0, _, F1, G', rfl, rfl, h3, g3⟩
/-- what stands in the place behind x[i] = d -/
def fSet : D → D → D → Option D
  | .lst true ds, .int k, d => match ixN ds.length k with | some j => some (.lst true (ds.set j d)) | none => none
  | .dct true kvs, k, d => match keyD k with | some _ => if kvs.length < sizeLine && fzn d then some (.dct true (putKD kvs k d)) else none | none => none
  | _, _, _ => none
def rDPutU : TSet := fun o i v H Q => ∃ a H4, o = .ref a ∧ DPut H a i v H4 ∧ Q H4
theorem set_dictU {X : Cx} (hu : X.A.units + 64 < cLine) : PSet X rDPutU := by
  intro pins s σ H o i v ov iv u Q I ro ri rv h
  obtain ⟨a, H4, rfl, g, q⟩ := h
  cases ro
  exact d_setItem (by omega) I g ri rv fun s4 I4 => ⟨H4, I4, q⟩
def rSetU : TSet := fun o i v H Q => rSetL o i v H Q ∨ rDPutU o i v H Q
theorem o_set {X : Cx} (hu : X.A.units + 64 < cLine) : PSet X rSetU := by
  intro pins s σ H o i v ov iv u Q I ro ri rv h
  rcases h with h | h
  · exact set_list pins s σ H o i v ov iv u Q I ro ri rv h
  · exact set_dictU hu pins s σ H o i v ov iv u Q I ro ri rv h
def sPut (p : Plc) (m n : ME) : MS := fun env => (m env).bind fun d e => match getP e p with
  | some _ => (n e).bind fun i e => match getP e p with
    | some c => (match fSet c i d with | some c' => .ok .nx (setP e p c') | none => .no)
    | none => .no
  | none => .no
theorem rs_put {s1 s2 : Bool} {p : Plc} {t u : TE} {m n : ME} (hp : PlcOk N.C p) (h : RefE N s1 t m) (hn : RefT N s2 u n) (hs : plcSt p s2 = true) : RefS N (tAsg t (gSub (tPlc N.C.K p) u rSetU)) (sPut p m n) := fun env σ Z H F D0 o r w => by
  refine h env σ Z H F _ o r (w.bind.mono (Pin.refl _ _) (Ext.refl o) ?_)
  intro d env1 k v Z1 H1 Fv F1 x1 rv r1 sm1
  split at k
  · rename_i c0 q0
    obtain ⟨a, Fe, Fr, g1, g2, g3, g4⟩ := focus hp r1 q0
    refine readP g1 ?_
    have o1 := x1.ok.split
    refine hn env1 σ Z1 H1 F1 _ o1 r1 ((Wp.bind k).mono (Pin.refl _ _) x1.right ?_)
    intro i env2 k2 iv Z2 H2 Fi F2 x2 ri r2 sm2
    have y2 := x2.hold x1.ok
    split at k2
    · rename_i c q1
      have hu := place_same hp hs g1 r2 q1 sm2
      cases hfd : fSet c i d with
      | none => simp only [hfd] at k2; exact k2.elim
      | some c' =>
      simp only [hfd] at k2
      have rv2 : RdV N.C Z2 H2 d v Fv := x2.held x1.ok.disj rv
      obtain ⟨u', Fe1, Fr1, j1, j2, j3, j4⟩ := focus hp r2 q1
      have eu := ReadP.uniq (Same.refl _) hu j1
      subst eu
      have pm : (Fv ++ F2).Perm (Fv ++ (Fe1 ++ Fr1)) := List.Perm.append_left Fv j3
      have nd2 := pm.nodup_iff.mp y2.ok.nd
      unfold fSet at hfd
      split at hfd
      · rename_i ds z
        cases hj : ixN ds.length z with
        | none => simp only [hj] at hfd; cases hfd
        | some j =>
        simp only [hj] at hfd
        cases hfd
        rw [RdV] at j2
        obtain ⟨l, vs, G, rfl, e1, rfl, e3⟩ := j2
        have ndFG : (Fv ++ G).Nodup := List.nodup_append.mpr ⟨nodup_left nd2, (List.nodup_cons.mp (nodup_left (nodup_right nd2))).2, fun a ha b hb e => by
          subst e
          exact (List.nodup_append.mp nd2).2.2 a ha a (List.mem_append_left _ (List.mem_cons_of_mem _ hb)) rfl⟩
        obtain ⟨G', n1, n2, n3⟩ := RdL.set (j := j) e3 rv2 ndFG
        have nl : l ∉ Fv ++ G := fun z => by
          rcases List.mem_append.mp z with z | z
          · exact (List.nodup_append.mp nd2).2.2 l z l (by simp) rfl
          · exact (List.nodup_cons.mp (nodup_left (nodup_right nd2))).1 z
        have nr : l ∉ Fr1 := fun z => (List.nodup_append.mp (nodup_right nd2)).2.2 l (List.mem_cons_self ..) l z rfl
        refine .inl ⟨l, vs, z, j, rfl, ri.intI, e1, by rw [← e3.length]; exact hj, ?_⟩
        obtain ⟨F3, k3, k4⟩ := j4 (upd H2 l (.lst (vs.set j v))) (.lst true (ds.set j d)) (l :: G') (fun b hb => upd_ne fun z : b = l => nr (by rw [← z]; exact hb)) (by
          rw [RdV]
          exact ⟨l, _, G', rfl, upd_same, rfl, n3.mut fun z => nl (n2 l z)⟩)
        have hmem : l ∈ Fv ++ F2 := pm.mem_iff.mpr (by simp)
        have x3 := Ext.mut (o := .lst (vs.set j v)) y2.ok hmem
        refine k2 σ Z2 _ F3 (Pin.refl _ _) ((x1.trans y2).trans (x3.sub ?_ fun a ha => ?_)) k4
        · refine k3.nodup_iff.mpr ?_
          rw [List.cons_append]
          refine List.nodup_cons.mpr ⟨fun z => ?_, List.nodup_append.mpr ⟨n1, nodup_right (nodup_right nd2), fun a ha b hb e => ?_⟩⟩
          · rcases List.mem_append.mp z with z | z
            · exact nl (n2 l z)
            · exact nr z
          · subst e
            rcases List.mem_append.mp (n2 a ha) with z | z
            · exact (List.nodup_append.mp nd2).2.2 a z a (List.mem_append_right _ hb) rfl
            · exact (List.nodup_append.mp (nodup_right nd2)).2.2 a (List.mem_cons_of_mem _ z) a hb rfl
        · refine pm.mem_iff.mpr ?_
          rcases List.mem_append.mp (k3.mem_iff.mp ha) with y | y
          · rcases List.mem_cons.mp y with y | y
            · subst y; simp
            · rcases List.mem_append.mp (n2 a y) with y | y
              · exact List.mem_append_left _ y
              · exact List.mem_append_right _ (List.mem_append_left _ (List.mem_cons_of_mem _ y))
          · exact List.mem_append_right _ (List.mem_append_right _ y)
      · rename_i kvs
        cases hk : keyD i with
        | none => simp only [hk] at hfd; cases hfd
        | some q =>
        simp only [hk] at hfd
        split at hfd
        case isFalse => cases hfd
        rename_i hz
        cases hfd
        rw [Bool.and_eq_true, decide_eq_true_eq] at hz
        have := RdV.fzn d v Fv hz.2 rv2
        subst this
        obtain rfl := kD_key hk
        have ei := ri.key hk
        subst ei
        rw [RdV] at j2
        obtain ⟨l, us, G, rfl, e1, rfl, e3⟩ := j2
        obtain ⟨G', n1, n2⟩ := RdK.put0 (k := q) rv2 e3
        simp only [List.nil_append] at pm nd2
        have nl : l ∉ G := (List.nodup_cons.mp (nodup_left nd2)).1
        have nr : l ∉ Fr1 := fun z => (List.nodup_append.mp nd2).2.2 l (List.mem_cons_self ..) l z rfl
        refine .inr ⟨l, _, rfl, DPut.k e1 (by rw [← e3.length]; exact hz.1), ?_⟩
        obtain ⟨F3, k3, k4⟩ := j4 (upd H2 l (.dK (putK us q v))) (.dct true (putKD kvs (kD q) d)) (l :: G') (fun b hb => upd_ne fun z : b = l => nr (by rw [← z]; exact hb)) (by
          rw [RdV]
          exact ⟨l, _, G', rfl, upd_same, rfl, n2.mut fun z => nl (n1.mem z)⟩)
        have hmem : l ∈ [] ++ F2 := pm.mem_iff.mpr (by simp)
        have x3 := Ext.mut (o := .dK (putK us q v)) y2.ok hmem
        refine k2 σ Z2 _ F3 (Pin.refl _ _) ((x1.trans y2).trans (x3.sub ?_ fun a ha => ?_)) k4
        · refine k3.nodup_iff.mpr ?_
          rw [List.cons_append]
          refine List.nodup_cons.mpr ⟨fun z => ?_, List.nodup_append.mpr ⟨n1.nodup (List.nodup_cons.mp (nodup_left nd2)).2, nodup_right nd2, fun a ha b hb e => ?_⟩⟩
          · rcases List.mem_append.mp z with z | z
            · exact nl (n1.mem z)
            · exact nr z
          · subst e
            exact (List.nodup_append.mp nd2).2.2 a (List.mem_cons_of_mem _ (n1.mem ha)) a hb rfl
        · refine pm.mem_iff.mpr ?_
          rcases List.mem_append.mp (k3.mem_iff.mp ha) with y | y
          · rcases List.mem_cons.mp y with y | y
            · subst y; simp
            · exact List.mem_append_left _ (List.mem_cons_of_mem _ (n1.mem y))
          · exact List.mem_append_right _ y
      · cases hfd
    · exact k2.elim
  · exact k.elim
/-! ### self.f = e -/
def sFldD (i : Nat) (cs : List String) (f : String) (m : ME) : MS := fun env => (m env).bind fun d e => match e[i]? with
  | some (some (.ins true c fs)) => if cs.contains c && decide (fs.length < 1000) then .ok .nx (e.set i (some (.ins true c (putD f d fs)))) else .no
  | _ => .no
theorem RdF.length : ∀ {fs : List (String × D)} {us : List (Str × V)} {F : List Addr}, RdF C Z H fs us F → fs.length = us.length
  | [], _, _, h => by rw [RdF] at h; rw [h.1]; rfl
  | (k, d) :: r, _, _, h => by
    rw [RdF] at h
    obtain ⟨v, s, F1, F2, rfl, _, _, h⟩ := h
    simp [RdF.length h]
theorem RdF.store : ∀ {fs : List (String × D)} {us : List (Str × V)} {F : List Addr} {f : String} {d : D} {v : V} {Fd : List Addr}, RdF C Z H fs us F → RdV C Z H d v Fd →
    ∃ Fr, Fr.Sublist F ∧ ∃ F', F'.Perm (Fd ++ Fr) ∧ RdF C Z H (putD f d fs) (putF (PySem.Str.ofString f) v us) F'
  | [], us, F, f, d, v, Fd, h, rv => by
    rw [RdF] at h
    rw [h.1, h.2]
    refine ⟨[], List.Sublist.refl _, Fd ++ [], List.Perm.refl _, ?_⟩
    rw [putD, putF, RdF]
    exact ⟨v, [], Fd, [], rfl, rfl, rv, by simp [RdF]⟩
  | (k, d0) :: fs, us, F, f, d, v, Fd, h, rv => by
    rw [RdF] at h
    obtain ⟨v0, s, F1, F2, rfl, rfl, r0, h⟩ := h
    rw [putD, putF]
    by_cases e : k = f
    · subst e
      rw [if_pos rfl, if_pos rfl]
      refine ⟨F2, List.sublist_append_right .., Fd ++ F2, List.Perm.refl _, ?_⟩
      rw [RdF]
      exact ⟨v, s, Fd, F2, rfl, rfl, rv, h⟩
    · rw [if_neg e, if_neg fun z => e (ofString_inj z)]
      obtain ⟨Fr, s1, F', p1, r1⟩ := RdF.store (f := f) h rv
      refine ⟨F1 ++ Fr, List.Sublist.append_left s1 F1, F1 ++ F', ?_, ?_⟩
      · refine (List.Perm.append_left F1 p1).trans ?_
        rw [← List.append_assoc, ← List.append_assoc]
        exact List.Perm.append_right Fr List.perm_append_comm
      · rw [RdF]
        exact ⟨v0, _, F1, F', rfl, rfl, r0, r1⟩
theorem RdF.mut {a : Addr} {o : HO} {d : List (String × D)} {v : List (Str × V)} (h : RdF C Z H d v F) (n : a ∉ F) : RdF C Z (upd H a o) d v F :=
  RdF.mono (Same.refl _) d v F (fun b hb => upd_ne fun z : b = a => n (by rw [← z]; exact hb)) h
theorem rs_fld {s1 : Bool} {i : Nat} {cs : List String} {f : String} {t : TE} {m : ME} (hc : ∀ c ∈ cs, FldOk N.C c f) (h : RefE N s1 t m) : RefS N (sFld N.C.K (tVar i) t (PySem.Str.ofString f)) (sFldD i cs f m) := fun env σ Z H F D0 o r w => by
  refine h env σ Z H F _ o r (w.bind.mono (Pin.refl _ _) (Ext.refl o) ?_)
  intro d env1 k v Z1 H1 Fv F1 x1 rv r1 sm1
  split at k
  · rename_i c fs q
    split at k
    case isFalse => exact k.elim
    rename_i hz
    rw [Bool.and_eq_true, decide_eq_true_eq] at hz
    obtain ⟨u, G1, G2, h1, h2, h3, h4⟩ := r1.take q
    rw [RdV] at h2
    obtain ⟨a, Ca, dx, us, G, rfl, h5, h6, rfl, h7⟩ := h2
    obtain ⟨Cb, q1, q2, q3⟩ := hc c (by simpa using hz.1)
    rw [h5] at q1
    cases q1
    refine ⟨.ref a, h1, a, Ca, dx, us, rfl, h6, q2, q3, by rw [← h7.length]; exact hz.2, ?_⟩
    have pm : (Fv ++ F1).Perm (Fv ++ ((a :: G) ++ G2)) := List.Perm.append_left Fv h3
    have nd2 := pm.nodup_iff.mp x1.ok.nd
    obtain ⟨Fr, s1, G', p1, r2⟩ := RdF.store (f := f) h7 rv
    have na : a ∉ Fv := fun z => (List.nodup_append.mp nd2).2.2 a z a (by simp) rfl
    have nG : a ∉ G := (List.nodup_cons.mp (nodup_left (nodup_right nd2))).1
    have n2 : a ∉ G2 := fun z => (List.nodup_append.mp (nodup_right nd2)).2.2 a (List.mem_cons_self ..) a z rfl
    have nG' : a ∉ G' := fun z => by
      rcases List.mem_append.mp (p1.mem_iff.mp z) with z | z
      · exact na z
      · exact nG (s1.mem z)
    have h4' : RdE N.C Z1 (upd H1 a (.ins Ca dx (putF (PySem.Str.ofString f) v us))) (env1.set i none) σ G2 := h4.mut n2
    have hv : RdV N.C Z1 (upd H1 a (.ins Ca dx (putF (PySem.Str.ofString f) v us))) (.ins true c (putD f d fs)) (.ref a) (a :: G') := by
      rw [RdV]
      exact ⟨a, Ca, dx, _, G', rfl, h5, upd_same, rfl, r2.mut nG'⟩
    obtain ⟨F4, j1, j2⟩ := RdE.put (i := i) h4' (lt_of_get q) hv
    rw [set_same (env := env1) h1] at j2
    have hmem : a ∈ Fv ++ F1 := pm.mem_iff.mpr (by simp)
    have x3 := Ext.mut (o := .ins Ca dx (putF (PySem.Str.ofString f) v us)) x1.ok hmem
    refine k σ Z1 _ F4 (Pin.refl _ _) (x1.trans (x3.sub ?_ fun b hb => ?_)) j2
    · refine j1.nodup_iff.mpr ?_
      rw [List.cons_append]
      have ndG' : G'.Nodup := p1.nodup_iff.mpr (List.nodup_append.mpr ⟨nodup_left nd2, s1.nodup (List.nodup_cons.mp (nodup_left (nodup_right nd2))).2, fun x hx y hy e => by
        subst e
        exact (List.nodup_append.mp nd2).2.2 x hx x (List.mem_append_left _ (List.mem_cons_of_mem _ (s1.mem hy))) rfl⟩)
      refine List.nodup_cons.mpr ⟨fun z => ?_, List.nodup_append.mpr ⟨ndG', nodup_right (nodup_right nd2), fun x hx y hy e => ?_⟩⟩
      · rcases List.mem_append.mp z with z | z
        · exact nG' z
        · exact n2 z
      · subst e
        rcases List.mem_append.mp (p1.mem_iff.mp hx) with z | z
        · exact (List.nodup_append.mp nd2).2.2 x z x (List.mem_append_right _ hy) rfl
        · exact (List.nodup_append.mp (nodup_right nd2)).2.2 x (List.mem_cons_of_mem _ (s1.mem z)) x hy rfl
    · refine pm.mem_iff.mpr ?_
      rcases List.mem_append.mp (j1.mem_iff.mp hb) with y | y
      · rcases List.mem_cons.mp y with y | y
        · subst y; simp
        · rcases List.mem_append.mp (p1.mem_iff.mp y) with y | y
          · exact List.mem_append_left _ y
          · exact List.mem_append_right _ (List.mem_append_left _ (List.mem_cons_of_mem _ (s1.mem y)))
      · exact List.mem_append_right _ (List.mem_append_right _ y)
  · exact k.elim
end
end Mi
set_option maxHeartbeats 4000000
namespace Mi
open PySem PySem.Spec PyProof.Rows L2 RZ Ov PpSet
/-! ### set comprehensions, whatever the members are: the new set at D is O0 D, a member is taken in by Ad -/
def tScG (O0 : Addr → HO) (Ad : Addr → V → HO → HO → Prop) (wi : TI) (g : TG) (tt : TT) (te : TE) (vs : List Nat) : TE := fun σ H Q => wi σ H fun J H1 => ∀ D, H1 D = none →
  ∃ W : Nat → Nat → Hp → Prop, (∃ m, W 0 m (upd H1 D (O0 D))) ∧ ∀ i m H, W i m H →
    (J.stop i H ∧ Q (.ref D) H) ∨ (J.go i H ∧ ∃ Nx : Hp → Prop, (∀ H', Nx H' → ∃ m', m' < m ∧ W (i + 1) m' H') ∧ ∀ x H', J.yld i H x H' →
      g x (wipe σ vs) H' fun σ2 H2 => wipe σ2 vs = wipe σ vs ∧ tt σ2 H2 fun b H3 => if b = true then te σ2 H3 fun y H4 => ∃ o o', H4 D = some o ∧ Ad D y o o' ∧ Nx (upd H4 D o') else Nx H3)
abbrev emptySet (w : World) : Obj := { cls := .type "set", dict := none, data := .set #[] 0 (.fresh 0 0 (!w.params.followText "set-order")) }
structure SetG (P : Program) (w : World) (O0 : Addr → HO) (Ad : Addr → V → HO → HO → Prop) : Prop where
  new : ∀ (H : Hp) (h : Heap), ObjOk P w H (h.push (emptySet w)) h.objs.size (O0 h.objs.size)
  add : ∀ (X : Cx) (pins : List (Addr × Obj)) (σ : L2.St) (H : Hp) (s : Shared) (E : Value → Shared → Prop) (D : Addr) (y : V) (u : Value) (o o' : HO) (Q : Value → Shared → Prop), X.prog = P → X.w = w →
    Inv X pins σ H s → H D = some o → Ad D y o o' → RelV y u → (∀ s', Inv X pins σ (upd H D o') s' → Q .none s') → wpAny (model P w) X.A (call (.builtin "set.add") [.ref D, u]) Q E s
section
variable {X : Cx} {O0 : Addr → HO} {Ad : Addr → V → HO → HO → Prop}
theorem scG_core {pins : List (Addr × Obj)} {s : Shared} {σ : L2.St} {H : Hp} {Q : VK} {elt tg iter : Expr} {ifs : List Expr} {scope : Scope} {own : List (PySem.Str × Nat)} {pos pos' : Pos} {wi : TI} {g : TG} {tt : TT} {te : TE} {us : Option (Value → Sem Unit)} {Qf : Value → Shared → Prop}
    (SG : SetG X.prog X.w O0 Ad) (hc : X.calm = true) (hN : X.N.Nodup) (hi : PI X tg iter wi)
    (ok : BlkOk X.N X.env.scope scope own) (hg : ∀ (sh : Shared) (Hh : Hp) (A0 : Addr) (cl : List (PySem.Str × Addr)) (fp : List Addr), PG (X.blk sh Hh scope (compEnvC scope cl A0 X.env) fp) tg g)
    (ht : ∀ (sh : Shared) (Hh : Hp) (A0 : Addr) (cl : List (PySem.Str × Addr)) (fp : List Addr), PTs (X.blk sh Hh scope (compEnvC scope cl A0 X.env) fp) ifs tt)
    (he : ∀ (sh : Shared) (Hh : Hp) (A0 : Addr) (cl : List (PySem.Str × Addr)) (fp : List Addr), PE (X.blk sh Hh scope (compEnvC scope cl A0 X.env) fp) elt te)
    (hs : ∀ x, foldedSetIterable iter X.env x = pure x) (I : Inv X pins σ H s) (h : tScG O0 Ad wi g tt te (own.map (·.2)) σ H Q)
    (ends : ∀ D A0 sq mm Hq, Inv X pins σ Hq sq → Q (.ref D) Hq → sq.heap.Ns A0 mm → FpOk X pins Hq A0 → compPost (model X.prog X.w) X.A X.xe us Qf (.ref D) A0 (.ok .next) sq) :
    wpAny (model X.prog X.w) X.A (comprehension (.SetComp elt [⟨tg, iter, ifs, 0⟩] scope pos) scope X.env pos' (newSet (.type "set")) false (eval iter X.env) us) Qf X.xe s := by
  have frees : ∀ nk ∈ scope.names, nk.2 = .free → ∃ cell, X.env.cells.lookup nk.1 = some cell := fun nk hnk e =>
    (ok.free nk hnk e).elim (fun z => I.ok.has _ (.inl z)) fun z => I.ok.has _ (.inr z)
  refine wpAny_comprehension_free (use := us) rfl hs (closure_ok frees) ok.kind (fun nk hnk e => by rw [ok.uniq nk hnk, e])
    (thn (hi.run pins s σ H _ I h) fun itv0 sA hA => thn hA fun itv sB hB => ?_)
  obtain ⟨it, fp, tn, J, HB, e, IB, T, stB, fB, q⟩ := hB
  subst e
  refine newSet_ok (newEnv_comp ?_)
  obtain ⟨W, ⟨m0, w0⟩, turn⟩ := q sB.heap.objs.size (IB.hok.fresh (Nat.le_refl _))
  generalize hsC : ({ sB with heap := sB.heap.push (emptySet X.w) } : Shared) = sC
  have hhC : sC.heap = sB.heap.push (emptySet X.w) := by rw [← hsC]
  generalize hDD : sB.heap.objs.size = D at w0 turn
  have IC : Inv X pins σ (upd HB D (O0 D)) sC := by
    rw [← hsC, ← hDD]
    exact IB.laid (t' := sB.toks) (fun b o e => Heap.get?_push_of_some _ e) (Nat.le_refl _) (SG.new _ sB.heap)
  have below : ∀ b ∈ fp, b < D := fun b hb => by
    obtain ⟨o, e, _⟩ := T.obj _ _ stB b hb
    rw [← hDD]
    exact Heap.lt_size e
  have fC : ∀ b ∈ fp, FpOk X pins (upd HB D (O0 D)) b ∧ b < sC.heap.objs.size := fun b hb => by
    have lt := below b hb
    refine ⟨⟨by rw [upd_ne (Nat.ne_of_lt lt)]; exact (fB b hb).1, (fB b hb).2⟩, ?_⟩
    rw [hhC, Heap.size_push, hDD]
    exact Nat.lt_succ_of_lt lt
  have stC : tn 0 sC.heap := T.keep _ _ _ stB fun b _ o e => by rw [hhC]; exact Heap.get?_push_of_some _ e
  have ID := block_start IC ok hN fC
  generalize hHC : upd HB D (O0 D) = HC at IC ID w0 fC
  have gG := hg sC HC sC.heap.objs.size (cellsFrom (sC.heap.objs.size + 1) scope.names (cloFrom X.env.cells scope.names [])) fp
  have gT := ht sC HC sC.heap.objs.size (cellsFrom (sC.heap.objs.size + 1) scope.names (cloFrom X.env.cells scope.names [])) fp
  have gE := he sC HC sC.heap.objs.size (cellsFrom (sC.heap.objs.size + 1) scope.names (cloFrom X.env.cells scope.names [])) fp
  show codeAny _ _ (.compStart (.SetComp elt [⟨tg, iter, ifs, 0⟩] scope pos) 0 (.ref it) (.ref D) (compEnvC scope (cellsFrom (sC.heap.objs.size + 1) scope.names (cloFrom X.env.cells scope.names [])) sC.heap.objs.size X.env))
    (compPost (model X.prog X.w) X.A X.xe us Qf (.ref D) sC.heap.objs.size) { sC with heap := pushCells (sC.heap.push { cls := .type "dict", data := .dict #[] }) scope.names }
  generalize hcv : compEnvC scope (cellsFrom (sC.heap.objs.size + 1) scope.names (cloFrom X.env.cells scope.names [])) sC.heap.objs.size X.env = cv at ID gG gT gE ⊢
  have locs : cv.locals = sC.heap.objs.size := by subst hcv; rfl
  generalize hsD : ({ sC with heap := pushCells (sC.heap.push { cls := .type "dict", data := .dict #[] }) scope.names } : Shared) = sD at ID ⊢
  have stD : tn 0 sD.heap := T.keep _ _ _ stC fun b _ o e => by rw [← hsD]; exact pushCells_keeps _ _ _ _ (Heap.get?_push_of_some _ e)
  have foot : ∀ {τ : L2.St} {Hq : Hp} {sq : Shared}, Inv (X.blk sC HC scope cv fp) [] τ Hq sq → (∀ b ∈ fp, Hq b = none) → ∀ b ∈ fp, FpOk (X.blk sC HC scope cv fp) [] Hq b := fun {τ Hq sq} Iq hn b hb =>
    ⟨hn b hb, (Iq.ok.exf b hb).1, Iq.ok.exfs b hb, .inl hb, fun x c e => (Iq.ok.exf b hb).2 x c e, fun p hp => by simp at hp⟩
  have body : codeAny (model X.prog X.w) X.A (.compLoop (.SetComp elt [⟨tg, iter, ifs, 0⟩] scope pos) 0 (.ref it) (.ref D) cv)
      (compPost (model X.prog X.w) X.A X.xe us Qf (.ref D) sC.heap.objs.size) sD := by
    refine compLoopS_any (fun n sq => ∃ i Hq, Inv (X.blk sC HC scope cv fp) [] (wipe σ (own.map (·.2))) Hq sq ∧ tn i sq.heap ∧ (∀ b ∈ fp, Hq b = none) ∧ W i n Hq) ?_ m0
      ⟨0, HC, ID, stD, fun b hb => (fC b hb).1.1, w0⟩
    rintro n s5 ⟨i, H5, I5, st5, n5, w5⟩
    rcases turn i n H5 w5 with ⟨stop, fin0⟩ | ⟨go, Nx, hNx, step⟩
    · refine thnF (T.done (X.blk sC HC scope cv fp) rfl rfl rfl hc i [] s5 _ H5 (fun _ _ => False) I5 (foot I5 n5) st5 stop) fun rr s6 ⟨hr, I6⟩ => ?_
      subst hr
      have back : Inv X pins σ H5 s6 := IC.call' (ch := fp) I6.os I6.base I6.hok I6.bare fun b hb => ⟨(fC b hb).1.2.2.2.1, (fC b hb).1.2.1, (fC b hb).1.2.2.2.2.1, (fC b hb).1.2.2.2.2.2⟩
      have free : H5 sC.heap.objs.size = none := by
        have z : H5 cv.locals = none := I6.free
        rwa [locs] at z
      obtain ⟨mm, hns, _⟩ := I6.loc
      have hns : s6.heap.Ns cv.locals mm := hns
      rw [locs] at hns
      exact ends D sC.heap.objs.size s6 mm H5 back fin0 hns (IC.fpOk (Nat.le_refl _) free)
    · refine thnF (T.item (X.blk sC HC scope cv fp) rfl rfl rfl hc i [] s5 _ H5 (fun _ _ => False) I5 (foot I5 n5) st5 go) fun rr s6 ⟨u, hr, h6⟩ => ?_
      subst hr
      refine thnF h6 fun _ s7 ⟨x, H7, I7, r7, y7, st7, n7⟩ => ?_
      refine thnF (gG.run _ s7 _ H7 x u _ (I7.pinned (foot I7 n7) (T.obj _ _ st7)) r7 (step x H7 y7)) fun _ s8 ⟨σ8, H8, I8, hw8, q8⟩ => ?_
      refine thnF (gT.run _ s8 σ8 H8 _ I8 q8) fun b s9 ⟨H9, I9, q9⟩ => ?_
      have again : ∀ {sq : Shared} {Hq : Hp}, Inv (X.blk sC HC scope cv fp) ([] ++ pinsAt fp s7.heap) σ8 Hq sq → Nx Hq →
          ∃ m, m < n ∧ ∃ i Hq, Inv (X.blk sC HC scope cv fp) [] (wipe σ (own.map (·.2))) Hq sq ∧ tn i sq.heap ∧ (∀ b ∈ fp, Hq b = none) ∧ W i m Hq := fun {sq Hq} Iq nx => by
        obtain ⟨m', hm, w'⟩ := hNx Hq nx
        have held : ∀ b ∈ fp, ∀ o, s7.heap.get? b = some o → sq.heap.get? b = some o ∧ Hq b = none := fun b hb o e =>
          have z := Iq.pin (b, o) (List.mem_append_right _ (List.mem_append_right _ (mem_pinsAt hb e)))
          ⟨z.1, z.2.1⟩
        refine ⟨m', hm, i + 1, Hq, (Iq.unpinned (pins := [])).weak (by rw [← hw8, wipe_length]) (fun j v e => by rw [← hw8] at e; exact (wipe_some e).1),
          T.keep _ _ _ st7 fun b hb o e => (held b hb o e).1, fun b hb => ?_, w'⟩
        obtain ⟨o, e, _⟩ := T.obj _ _ st7 b hb
        exact (held b hb o e).2
      cases b with
      | false =>
        simp only [Bool.false_eq_true, if_false] at q9 ⊢
        exact again I9 q9
      | true =>
        simp only [if_true] at q9 ⊢
        refine thnF (gE.run _ s9 σ8 H9 _ I9 q9) fun z s10 ⟨yv, H10, I10, r10, o1, o2, hD10, ad, nx⟩ => ?_
        exact SG.add (X.blk sC HC scope cv fp) _ _ _ _ _ D yv z o1 o2 _ rfl rfl I10 hD10 ad r10 fun s11 I11 => again I11 nx
  exact codeAny_compStart_set body (T.self X.A 0 _ _ _ stD body)
section
variable {elt tg iter : Expr} {ifs : List Expr} {scope : Scope} {own : List (PySem.Str × Nat)} {pos : Pos} {wi : TI} {g : TG} {tt : TT} {te : TE}
/-- a local name is given a comprehension's object -/
theorem named {pins : List (Addr × Obj)} {σ : L2.St} {i : Nat} {y : PySem.Str} {py : Pos} {D0 : Ends} {Lo : Addr} (hN : X.N.Nodup) (hy : X.N[i]? = some y) (hyl : X.env.scope.names.lookup y = some .local) {A0 : Addr} {sq : Shared} {mm : PySem.Str → Option Value} {Hq : Hp}
    (Iq : Inv X pins σ Hq sq) (q : gName i (.ref Lo) σ Hq D0.nx) (hns : sq.heap.Ns A0 mm) (f : FpOk X pins Hq A0) :
    compPost (model X.prog X.w) X.A X.xe (some (assign (.Name y py) X.env)) (fun _ s' => SP X pins D0 .next s') (.ref Lo) A0 (.ok .next) sq := by
  show wpAny _ _ (assign (.Name y py) X.env (.ref Lo)) _ _ _
  refine wpAny_assign_Name (store_ok2 (v := V.ref Lo) Iq hN hy (.inl hyl) rfl (fun s2 I2 ⟨a, sb, ha⟩ => ?_) (.inr hyl))
  obtain ⟨f0, f1, f2, f3, f4, f5⟩ := f
  have apart : A0 ≠ a := ha.elim (fun z => by rw [z]; exact f1) fun z e => f4 y a z e.symm
  exact ⟨mm, hns.sameBut sb apart, fun h3 sb3 => ⟨_, Hq, I2.turned (t' := s2.toks) (fun b o hb e => (sb3.2 b hb).trans e) f0 f1 f3 f4 f5, q⟩⟩
theorem ps_setScG {i : Nat} {y : PySem.Str} {py spos : Pos} (SG : SetG X.prog X.w O0 Ad) (hc : X.calm = true) (hN : X.N.Nodup) (hy : X.N[i]? = some y) (hyl : X.env.scope.names.lookup y = some .local)
    (hsw : swapsWith (.SetComp elt [⟨tg, iter, ifs, 0⟩] scope pos) (some (.Name y py)) spos.line X.env = pure true) (hi : PI X tg iter wi)
    (ok : BlkOk X.N X.env.scope scope own) (hg : ∀ (sh : Shared) (Hh : Hp) (A0 : Addr) (cl : List (PySem.Str × Addr)) (fp : List Addr), PG (X.blk sh Hh scope (compEnvC scope cl A0 X.env) fp) tg g)
    (ht : ∀ (sh : Shared) (Hh : Hp) (A0 : Addr) (cl : List (PySem.Str × Addr)) (fp : List Addr), PTs (X.blk sh Hh scope (compEnvC scope cl A0 X.env) fp) ifs tt)
    (he : ∀ (sh : Shared) (Hh : Hp) (A0 : Addr) (cl : List (PySem.Str × Addr)) (fp : List Addr), PE (X.blk sh Hh scope (compEnvC scope cl A0 X.env) fp) elt te)
    (hs : ∀ x, foldedSetIterable iter X.env x = pure x := by intro _; rfl) :
    PS X (.Assign [.Name y py] (.SetComp elt [⟨tg, iter, ifs, 0⟩] scope pos) spos) (tAsg (tScG O0 Ad wi g tt te (own.map (·.2))) (gName i)) := by
  refine ⟨fun pins s σ H D0 I h => ?_⟩
  rw [exec_Assign_Name_used _ _ _ _ hsw]
  refine wpAny_bind (wpAny_standAt (wpAny_bind ?_))
  have h : tScG O0 Ad wi g tt te (own.map (·.2)) σ H (fun x H1 => gName i x σ H1 D0.nx) := h
  show wpAny _ X.A (do let _ ← comprehension (.SetComp elt [⟨tg, iter, ifs, 0⟩] scope pos) scope X.env (firstIterPos [⟨tg, iter, ifs, 0⟩] pos) (newSet (.type "set")) false (eval iter X.env) (some (assign (.Name y py) X.env))) _ _ s
  exact wpAny_bind (thn (scG_core SG hc hN hi ok hg ht he hs I h fun Lo A0 sq mm Hq Iq q hns f => named hN hy hyl Iq q hns f) fun _ s' hq => wpAny_pure (wpAny_pure hq))
end
end
/-! ### ints; ints and texts -/
def AdO (w : World) (D : Addr) (y : V) (o o' : HO) : Prop := ∃ (k : Int) (S : Int → Bool) (n : Nat), y = .int k ∧ o = SetO w D S n ∧ n + 1 < scanBound ∧ o' = SetO w D (fun j => S j || decide (j = k)) (if S k = true then n else n + 1)
theorem setG_O {P : Program} {w : World} : SetG P w (fun D => SetO w D (fun _ => false) 0) (AdO w) := by
  refine ⟨fun H h => setO_new (setR_fresh w), ?_⟩
  intro X pins σ H s E D y u o o' Q hP hw I hD ad ru k
  subst hP hw
  obtain ⟨i, S, n, rfl, rfl, room, rfl⟩ := ad
  obtain ⟨t, rfl⟩ := ru
  refine setR_add (setO_get I hD) room fun h' sb new => ?_
  have he : ∃ u, h'.get? D = some u := by
    have ⟨o, _, _, _, ho, _⟩ := new
    exact ⟨o, ho⟩
  exact k _ (I.write (e := D) (t' := s.toks + 1) (by rw [hD]; trivial) (.inl rfl) (fun b u hb hu => (sb.2 b hb).trans hu) he (setO_new new))
def AdK (P : Program) (w : World) (D : Addr) (y : V) (o o' : HO) : Prop := ∃ (k : Key) (S : Key → Bool) (n : Nat), y = kV k ∧ o = SetK P w D S n ∧ n + 1 < scanBound ∧ o' = SetK P w D (fun j => S j || decide (j = k)) (if S k = true then n else n + 1)
theorem setG_K {P : Program} {w : World} : SetG P w (fun D => SetK P w D (fun _ => false) 0) (AdK P w) := by
  refine ⟨fun H h => setK_new ⟨_, #[], 0, _, Heap.get?_push_size _ rfl, ⟨rfl, rfl, rfl⟩, rfl, (fun e he => by simp at he), (fun k => by simp), (by decide), (by rfl), rfl⟩, ?_⟩
  intro X pins σ H s E D y u o o' Q hP hw I hD ad ru k
  subst hP hw
  obtain ⟨q, S, n, rfl, rfl, room, rfl⟩ := ad
  refine call_set_add (kV_is ru) (key_scan ru) (setK_get I hD) room fun h' sb new => ?_
  have he : ∃ u, h'.get? D = some u := by
    have ⟨o, _, _, _, ho, _⟩ := new
    exact ⟨o, ho⟩
  exact k _ (I.write (e := D) (t' := s.toks + 1) (by rw [hD]; trivial) (.inl rfl) (fun b u hb hu => (sb.2 b hb).trans hu) he (setK_new new))
end Mi
set_option maxHeartbeats 4000000
namespace Mi
open PySem PySem.Spec PyProof.Rows L2 RZ Ov PpSet
section
variable {N : Cn} {C : Ct} {Z H Z' H' : Hp} {F F' G Fv : List Addr} {σ : L2.St}
theorem walk_gen {J : It} {n : Nat} {G : Hp → Prop} {Y : Nat → Hp → V → Hp → Prop} (w : Walk J n G Y) {S : (Hp → Prop) → V → Hp → Prop} {H0 : Hp} {Qd : Hp → Prop} (Pv : Nat → Hp → Prop) (h0 : Pv 0 H0) (hG : ∀ i H, i ≤ n → Pv i H → G H)
    (hs : ∀ i x H H', i < n → Pv i H → Y i H x H' → S (Pv (i + 1)) x H') (hd : ∀ H, Pv n H → Qd H) :
    ∃ W : Nat → Nat → Hp → Prop, (∃ m, W 0 m H0) ∧ ∀ i m H, W i m H → (J.stop i H ∧ Qd H) ∨ (J.go i H ∧ ∃ Nx : Hp → Prop, (∀ H', Nx H' → ∃ m', m' < m ∧ W (i + 1) m' H') ∧ ∀ x H', J.yld i H x H' → S Nx x H') := by
  refine ⟨fun i m H => m = n - i ∧ i ≤ n ∧ Pv i H, ⟨n, by simp, Nat.zero_le _, h0⟩, ?_⟩
  rintro i m H ⟨rfl, hi, p⟩
  have q := hG i H hi p
  by_cases hlt : i < n
  · exact .inr ⟨w.goes i H hlt q, Pv (i + 1), fun H' p' => ⟨n - (i + 1), by omega, rfl, hlt, p'⟩, fun x H' y => hs i x H H' hlt p (w.yields i H x H' hlt q y)⟩
  · obtain rfl : i = n := by omega
    exact .inl ⟨w.stops H q, hd H p⟩
/-- a comprehension that fills one new object with frozen things -/
def tCompK (O0 : Addr → HO) (Kt : Addr → (Hp → Prop) → List V → Hp → Prop) (wi : TI) (g : TG) (tt : TT) (body : TA) (vs : List Nat) : TE := fun σ H Q => wi σ H fun J H1 => ∀ D, H1 D = none →
  ∃ W : Nat → Nat → Hp → Prop, (∃ m, W 0 m (upd H1 D (O0 D))) ∧ ∀ i m H, W i m H →
    (J.stop i H ∧ Q (.ref D) H) ∨ (J.go i H ∧ ∃ Nx : Hp → Prop, (∀ H', Nx H' → ∃ m', m' < m ∧ W (i + 1) m' H') ∧ ∀ x H', J.yld i H x H' →
      g x (wipe σ vs) H' fun σ2 H2 => wipe σ2 vs = wipe σ vs ∧ tt σ2 H2 fun b H3 => if b = true then body σ2 H3 fun ys H4 => Kt D Nx ys H4 else Nx H3)
def cF {α : Type} (g : MG) (c : MB) (m : ML) (ws : List Nat) (add : α → List D → Option α) : List D → α → Env → R α
  | [], acc, env => .ok acc env
  | d :: ds, acc, env => match g d env with
    | none => .no
    | some e => (c e).bind0 fun b e => if b then (m e).bind0 fun ys e => (match add acc ys with | some acc' => cF g c m ws add ds acc' (wipeE e ws) | none => .no)
      else cF g c m ws add ds acc (wipeE e ws)
def eComp {α : Type} (it : MI) (g : MG) (c : MB) (m : ML) (ws : List Nat) (add : α → List D → Option α) (a0 : α) (fin : α → D) : ME := fun env => (it env).bind fun ds e => (cF g c m ws add ds a0 (wipeE e ws)).bind0 fun r e => .ok (fin r) e
theorem re_comp {α : Type} {s1 s2 : Bool} {ws : List Nat} {wi : TI} {it : MI} {g : TG} {mg : MG} {tt : TT} {c : MB} {body : TA} {m : ML} {O0 : Addr → HO} {Kt : Addr → (Hp → Prop) → List V → Hp → Prop}
    {add : α → List D → Option α} {a0 : α} {fin : α → D} (Acc : Hp → α → Addr → HO → Prop) (own : Bool)
    (mono : ∀ {Z Z' a D o}, Same Z Z' → Acc Z a D o → Acc Z' a D o) (h00 : ∀ Z D, Acc Z a0 D (O0 D))
    (hadd : ∀ {Z H D o a a' as us Fs Nx}, RdL N.C Z H as us Fs → add a as = some a' → H D = some o → Acc Z a D o → (∀ o', Acc Z a' D o' → Nx (upd H D o')) → Kt D Nx us H)
    (hfin : ∀ {Z H a D o}, H D = some o → Acc Z a D o → if own = true then RdV N.C Z H (fin a) (.ref D) [D] else RdV N.C (upd Z D o) H (fin a) (.ref D) [])
    (hi : RefI N wi it) (hg : RefG N.calm ws g mg) (hc : RefB N.calm s1 tt c) (he : RefA N.calm s2 body m) (hno : ∀ Z a D o, Acc Z a D o → NodeO D o) :
    RefE N false (tCompK O0 Kt wi g tt body ws) (eComp it mg c m ws add a0 fin) := fun env σ Z H F Q o r w => by
  refine hi env σ Z H F _ o r (w.bind.mono (Pin.refl _ _) (Ext.refl o) ?_)
  intro ds env1 k J Z1 H1 F1 x1 r1 wk Dn hD
  cases hfn : cF mg c m ws add ds a0 (wipeE env1 ws) with
  | ex => rw [hfn] at k; exact k.elim
  | no => rw [hfn] at k; exact k.elim
  | ok res envF =>
  rw [hfn] at k
  obtain ⟨F2, sF2, rF2⟩ := r1.wipe' (ws := ws)
  have xn := Ext.new (o := O0 Dn) x1.ok hD (hno Z1 a0 Dn _ (h00 Z1 Dn))
  have x2 : Ext N.C.T Z1 H1 F1 Z1 (upd H1 Dn (O0 Dn)) ([Dn] ++ F2) := xn.sub (by
    refine List.nodup_cons.mpr ⟨fun z => ?_, sF2.nodup x1.ok.nd⟩
    exact (List.nodup_cons.mp xn.ok.nd).1 (sF2.mem z)) fun a ha => by
      rcases List.mem_cons.mp ha with rfl | ha
      · exact List.mem_cons_self ..
      · exact List.mem_cons_of_mem _ (sF2.mem ha)
  refine walk_gen wk (fun i H2 => ∃ e2 Z2 F2 acc ob, Ext N.C.T Z1 H1 F1 Z2 H2 ([Dn] ++ F2) ∧ RdE N.C Z2 H2 (wipeE e2 ws) (wipe σ ws) F2 ∧ H2 Dn = some ob ∧ Acc Z2 acc Dn ob ∧
      cF mg c m ws add (ds.drop i) acc (wipeE e2 ws) = .ok res envF) ?_ ?_ ?_ ?_
  · refine ⟨env1, Z1, F2, a0, O0 Dn, x2, ?_, upd_same, h00 _ _, by simpa using hfn⟩
    refine RdE.wiped (σ := σ) ?_ (wipe_len ws) (fun i hi => wipe_get hi)
    exact rF2.same (Same.refl _) (same_new hD)
  · rintro i H2 _ ⟨e2, Z2, F2, acc, ob, x2, _⟩
    exact x2.zz.trans x2.ok.zh
  · rintro i xv H2 H3 hlt ⟨e2, Z2, F2, acc, ob, x2, r2, hDn, ra, hf⟩ y
    obtain ⟨d, Z3, ed, x3, rv, r3, _⟩ := y.state x2.zz x2.ok.split r2
    have hl : i < ds.length := hlt
    have e3 : ds.drop i = d :: ds.drop (i + 1) := by
      rw [List.drop_eq_getElem_cons hl]
      congr 1
      rw [List.getElem?_eq_getElem hl] at ed
      exact Option.some.inj ed
    rw [e3, cF] at hf
    cases q : mg d (wipeE e2 ws) with
    | none => rw [q] at hf; cases hf
    | some env3 =>
      rw [q] at hf
      obtain ⟨b, env4, hb, hf⟩ := bind0_ok hf
      have y3 := x3.hold x2.ok
      refine hg (wipeE e2 ws) (wipe σ ws) Z3 H3 F2 [] d xv _ env3 (by have := x3.ok; rw [List.nil_append]; exact this) r3 rv q fun σ4 F4 h1 h2 h3 h4 => ⟨?_, ?_⟩
      · rw [wipe_eq (σ := wipe σ ws) h3.1 h3.2]
        exact wipe_eq (wipe_len ws) (fun i hi => wipe_get hi)
      have o4 : Ok N.C.T Z3 H3 ([Dn] ++ F4) := y3.ok.sub (by
        refine List.nodup_append.mpr ⟨nodup_left y3.ok.nd, h1, fun a ha b hb e => ?_⟩
        subst e
        exact y3.ok.disj a ha (by simpa using h2 a hb)) fun a ha => by
          rcases List.mem_append.mp ha with z | z
          · exact List.mem_append_left _ z
          · exact List.mem_append_right _ (by simpa using h2 a z)
      have x4 : Ext N.C.T Z2 H2 ([Dn] ++ F2) Z3 H3 ([Dn] ++ F4) := y3.sub o4.nd fun a ha => by
        rcases List.mem_append.mp ha with z | z
        · exact List.mem_append_left _ z
        · exact List.mem_append_right _ (by simpa using h2 a z)
      refine hc env3 σ4 Z3 H3 F4 _ o4.split h4 (Wp.calm ⟨b, env4, hb, ?_⟩)
      intro Z5 H5 F5 x5 r5 _
      have y5 := x5.hold o4
      have D3 : H3 Dn = some ob := x3.at (x2.ok.disj Dn (List.mem_cons_self ..)) hDn (hno _ _ _ _ ra).tb
      have D5 : H5 Dn = some ob := x5.at (o4.disj Dn (List.mem_cons_self ..)) D3 (hno _ _ _ _ ra).tb
      have ra5 : Acc Z5 acc Dn ob := mono x5.zz (mono x3.zz ra)
      cases b with
      | false =>
        rw [if_neg Bool.false_ne_true] at hf ⊢
        obtain ⟨F6, s6, r6⟩ := r5.wipe' (ws := ws)
        refine ⟨env4, Z5, F6, acc, ob, ?_, r6.wiped h3.1.symm (fun i hi => (h3.2 i hi).symm), D5, ra5, hf⟩
        refine ((x2.trans x4).trans y5).sub (List.nodup_append.mpr ⟨nodup_left y5.ok.nd, s6.nodup (nodup_right y5.ok.nd), fun a ha b hb e => ?_⟩) fun a ha => ?_
        · subst e
          exact y5.ok.disj a ha (s6.mem hb)
        · rcases List.mem_append.mp ha with z | z
          · exact List.mem_append_left _ z
          · exact List.mem_append_right _ (s6.mem z)
      | true =>
        rw [if_pos rfl] at hf ⊢
        obtain ⟨dys, env6, hy, hf⟩ := bind0_ok hf
        cases had : add acc dys with
        | none => simp only [had] at hf; cases hf
        | some acc' =>
        simp only [had] at hf
        refine he env4 σ4 Z5 H5 F5 _ y5.ok.split r5 (Wp.calm ⟨dys, env6, hy, ?_⟩)
        intro yvs Z6 H6 Fy F6 x6 ry r6 _
        have y6 : Ext N.C.T Z5 H5 ([Dn] ++ F5) Z6 H6 ([Dn] ++ (Fy ++ F6)) := x6.hold y5.ok
        have D6 : H6 Dn = some ob := x6.at (y5.ok.disj Dn (List.mem_cons_self ..)) D5 (hno _ _ _ _ ra5).tb
        refine hadd ry had D6 (mono x6.zz ra5) fun ob' ra' => ?_
        obtain ⟨F7, s7, r7⟩ := r6.wipe' (ws := ws)
        have nd6 := y6.ok.nd
        have hDm : Dn ∈ [Dn] ++ (Fy ++ F6) := by simp
        have x7 := Ext.mut (o := ob') y6.ok hDm (hno _ _ _ _ ra')
        have hn : Dn ∉ Fy ∧ Dn ∉ F6 := by
          simp only [List.cons_append, List.nil_append, List.nodup_cons, List.mem_append, not_or] at nd6
          exact nd6.1
        refine ⟨env6, Z6, F7, acc', ob', ?_, ?_, upd_same, ra', hf⟩
        · refine (((x2.trans x4).trans y5).trans (y6.trans x7)).sub ?_ fun a ha => ?_
          · refine List.nodup_cons.mpr ⟨fun z => hn.2 (s7.mem z), s7.nodup (nodup_right (nodup_right nd6))⟩
          · rcases List.mem_cons.mp ha with z | z
            · subst z; simp
            · exact List.mem_append_right _ (List.mem_append_right _ (s7.mem z))
        · exact RdE.mut (r7.wiped h3.1.symm (fun i hi => (h3.2 i hi).symm)) fun z => hn.2 (s7.mem z)
  · rintro H2 ⟨e2, Z2, F2, acc, ob, x2, r2, hDn, ra, hf⟩
    rw [List.drop_length, cF] at hf
    cases hf
    have hr := hfin hDn ra
    have re : RdE N.C Z2 H2 (wipeE e2 ws) σ F2 := r2.wiped (wipe_len ws).symm (fun i hi => (wipe_get hi).symm)
    cases own with
    | true => exact k (.ref Dn) Z2 H2 [Dn] F2 (x1.trans x2) hr re fun z => by cases z
    | false =>
      have y := Ext.freeze (G := [Dn]) (F := F2) x2.ok
      have eZ : Zw Z2 H2 [Dn] = upd Z2 Dn ob := by
        funext b
        unfold Zw upd
        by_cases e : b = Dn
        · subst e; simp [hDn]
        · simp [e]
      rw [eZ] at y
      exact k (.ref Dn) _ H2 [] F2 (x1.trans (x2.trans y)) hr (re.same y.zz (Same.refl _)) fun z => by cases z
/-! ### dicts -/
def addKD (kvs : List (D × D)) : List D → Option (List (D × D))
  | [k, d] => match keyD k with | some _ => if kvs.length < sizeLine && fzn d then some (putKD kvs k d) else none | none => none
  | _ => none
def eDc (it : MI) (g : MG) (c : MB) (mk mv : ME) (ws : List Nat) : ME := eComp it g c (lCons mk (lCons mv lNil)) ws addKD [] (fun kvs => .dct true kvs)
theorem RdK.zmono {kvs : List (D × D)} {us : List (Key × V)} (zz : Same Z Z') (h : RdK C Z H kvs us []) (H' : Hp) : RdK C Z' H' kvs us [] := RdK.mono zz kvs us [] (fun a ha => by cases ha) h
theorem re_dc {s1 s2 s3 : Bool} {ws : List Nat} {wi : TI} {it : MI} {g : TG} {mg : MG} {tt : TT} {c : MB} {tk tv : TE} {mk mv : ME} (hi : RefI N wi it) (hg : RefG N.calm ws g mg) (hc : RefB N.calm s1 tt c) (hk : RefE N.calm s2 tk mk) (hv : RefE N.calm s3 tv mv) :
    RefE N false (tDc wi g tt tk tv ws) (eDc it mg c mk mv ws) := by
  refine re_comp (O0 := fun _ => .dK []) (Kt := fun D Nx ys H5 => match ys with | [y, z] => ∃ kvs k, y = kV k ∧ H5 D = some (.dK kvs) ∧ kvs.length < sizeLine ∧ Nx (upd H5 D (.dK (putK kvs k z))) | _ => False)
    (fun Z a D o => ∃ us, o = .dK us ∧ RdK N.C Z (fun _ => none) a us []) true ?_ ?_ ?_ ?_ hi hg hc (ra_cons hk (ra_cons hv ra_nil)) fun Z a D o ⟨us, e, _⟩ => (by rw [e]; exact node_of rfl)
  · rintro Z Z' a D o zz ⟨us, rfl, h⟩
    exact ⟨us, rfl, h.zmono zz _⟩
  · intro Z D
    exact ⟨[], rfl, by simp [RdK]⟩
  · rintro Z H D o a a' as us Fs Nx rl had hD ⟨kus, rfl, rk⟩ hN
    unfold addKD at had
    split at had
    · rename_i k d
      cases hk : keyD k with
      | none => simp only [hk] at had; cases had
      | some q =>
      simp only [hk] at had
      split at had
      case isFalse => cases had
      rename_i hz
      cases had
      rw [Bool.and_eq_true, decide_eq_true_eq] at hz
      rw [RdL] at rl
      obtain ⟨yv, r, G1, G2, rfl, rfl, rky, rl⟩ := rl
      rw [RdL] at rl
      obtain ⟨zv, r, G3, G4, rfl, rfl, rz, rl⟩ := rl
      rw [RdL] at rl
      obtain ⟨rfl, rfl⟩ := rl
      have := RdV.fzn d zv G3 hz.2 rz
      subst this
      obtain rfl := kD_key hk
      refine ⟨kus, q, rky.key hk, hD, by rw [← rk.length]; exact hz.1, hN _ ?_⟩
      obtain ⟨F', s1, r1⟩ := RdK.put0 (k := q) (rz.frozen (Same.refl _) (fun _ => none)) rk
      have : F' = [] := by simpa using s1
      subst this
      exact ⟨_, rfl, r1⟩
    · cases had
  · rintro Z H a D o hD ⟨us, rfl, rk⟩
    rw [if_pos rfl, RdV]
    exact ⟨D, us, [], rfl, hD, rfl, rk.zmono (Same.refl _) _⟩
/-! ### sets -/
def addSI (ns : List Int) : List D → Option (List Int)
  | [.int i] => if ns.length < 1000 then some (if (ns.any fun q => decide (i = q)) = true then ns else ns ++ [i]) else none
  | _ => none
def addST (xs : List Str) : List D → Option (List Str)
  | [.str i] => if xs.length < 1000 then some (if (xs.any fun q => decide (i = q)) = true then xs else xs ++ [i]) else none
  | _ => none
/-- a set of ints, or of texts -/
def eSc (it : MI) (g : MG) (c : MB) (m : ME) (ws : List Nat) : ME := fun env => match eComp it g c (lCons m lNil) ws addSI [] (fun ns => .set (ns.map .int)) env with
  | .no => eComp it g c (lCons m lNil) ws addST [] (fun xs => .set (.non :: xs.map .str)) env
  | r => r
def tSc2 (P : Program) (w : World) (wi : TI) (g : TG) (tt : TT) (te : TE) (vs : List Nat) : TE := fun σ H Q =>
  tScG (fun D => SetO w D (fun _ => false) 0) (AdO w) wi g tt te vs σ H Q ∨ tScG (fun D => SetK P w D (fun _ => false) 0) (AdK P w) wi g tt te vs σ H Q
theorem any_snoc {α : Type} [DecidableEq α] (l : List α) (k : α) : (fun j => (l.any fun q => decide (j = q)) || decide (j = k)) = fun j => (l ++ [k]).any fun q => decide (j = q) := by
  funext j
  rw [List.any_append]
  simp
theorem any_old {α : Type} [DecidableEq α] (l : List α) (k : α) (h : (l.any fun q => decide (k = q)) = true) : (fun j => (l.any fun q => decide (j = q)) || decide (j = k)) = fun j => l.any fun q => decide (j = q) := by
  funext j
  by_cases e : j = k
  · subst e
    rw [h]; rfl
  · rw [decide_eq_false e, Bool.or_false]
theorem nodup_snoc {α : Type} [DecidableEq α] {l : List α} {k : α} (nd : l.Nodup) (h : ¬ (l.any fun q => decide (k = q)) = true) : (l ++ [k]).Nodup := by
  rw [List.nodup_append]
  refine ⟨nd, by simp, fun a ha b hb e => ?_⟩
  have := List.mem_singleton.mp hb
  subst this e
  exact h (List.any_eq_true.mpr ⟨a, ha, by simp⟩)
theorem re_scO {s1 s2 : Bool} {ws : List Nat} {wi : TI} {it : MI} {g : TG} {mg : MG} {tt : TT} {c : MB} {te : TE} {m : ME} (hi : RefI N wi it) (hg : RefG N.calm ws g mg) (hc : RefB N.calm s1 tt c) (he : RefE N.calm s2 te m) :
    RefE N false (tScG (fun D => SetO N.C.w D (fun _ => false) 0) (AdO N.C.w) wi g tt te ws) (eComp it mg c (lCons m lNil) ws addSI [] (fun ns => .set (ns.map .int))) := by
  refine re_comp (Kt := fun D Nx ys H4 => match ys with | [y] => ∃ o o', H4 D = some o ∧ AdO N.C.w D y o o' ∧ Nx (upd H4 D o') | _ => False)
    (fun Z ns D o => ns.Nodup ∧ ns.length ≤ 1000 ∧ o = SetO N.C.w D (fun k => ns.any fun q => decide (k = q)) ns.length) false ?_ ?_ ?_ ?_ hi hg hc (ra_cons he ra_nil) fun Z a D o ⟨_, _, e⟩ => (by rw [e]; exact node_setO)
  · rintro Z Z' a D o zz h
    exact h
  · intro Z D
    exact ⟨List.nodup_nil, by simp, rfl⟩
  · rintro Z H D o a a' as us Fs Nx rl had hD ⟨nd, hl, rfl⟩ hN
    unfold addSI at had
    split at had
    · rename_i i
      split at had
      case isFalse => cases had
      rename_i hz
      cases had
      rw [RdL] at rl
      obtain ⟨yv, r, G1, G2, rfl, rfl, ry, rl⟩ := rl
      rw [RdL] at rl
      obtain ⟨rfl, rfl⟩ := rl
      have room : a.length + 1 < scanBound := Nat.lt_of_lt_of_le (m := 1001) (by omega) (by decide)
      refine ⟨_, _, hD, ⟨i, _, _, ry.intI, rfl, room, rfl⟩, hN _ ?_⟩
      by_cases hk : (a.any fun q => decide (i = q)) = true
      · rw [if_pos hk, if_pos hk, any_old a i hk]
        exact ⟨nd, hl, rfl⟩
      · rw [if_neg hk, if_neg hk, any_snoc]
        exact ⟨nodup_snoc nd hk, by rw [List.length_append]; simp; omega, by rw [List.length_append]; rfl⟩
    · cases had
  · rintro Z H a D o hD ⟨nd, hl, rfl⟩
    rw [if_neg Bool.false_ne_true, RdV]
    exact ⟨rfl, D, _, rfl, upd_same, .inr (.inl ⟨a, rfl, nd, rfl⟩)⟩
theorem re_scK {s1 s2 : Bool} {ws : List Nat} {wi : TI} {it : MI} {g : TG} {mg : MG} {tt : TT} {c : MB} {te : TE} {m : ME} (hi : RefI N wi it) (hg : RefG N.calm ws g mg) (hc : RefB N.calm s1 tt c) (he : RefE N.calm s2 te m) :
    RefE N false (tScG (fun D => SetK N.C.P N.C.w D (fun _ => false) 0) (AdK N.C.P N.C.w) wi g tt te ws) (eComp it mg c (lCons m lNil) ws addST [] (fun xs => .set (.non :: xs.map .str))) := by
  refine re_comp (Kt := fun D Nx ys H4 => match ys with | [y] => ∃ o o', H4 D = some o ∧ AdK N.C.P N.C.w D y o o' ∧ Nx (upd H4 D o') | _ => False)
    (fun Z xs D o => xs.Nodup ∧ xs.length ≤ 1000 ∧ o = SetK N.C.P N.C.w D (fun k => xs.any fun q => decide (k = Sum.inr q)) xs.length) false ?_ ?_ ?_ ?_ hi hg hc (ra_cons he ra_nil) fun Z a D o ⟨_, _, e⟩ => (by rw [e]; exact node_setK)
  · rintro Z Z' a D o zz h
    exact h
  · intro Z D
    exact ⟨List.nodup_nil, by simp, rfl⟩
  · rintro Z H D o a a' as us Fs Nx rl had hD ⟨nd, hl, rfl⟩ hN
    unfold addST at had
    split at had
    · rename_i i
      split at had
      case isFalse => cases had
      rename_i hz
      cases had
      rw [RdL] at rl
      obtain ⟨yv, r, G1, G2, rfl, rfl, ry, rl⟩ := rl
      rw [RdL] at rl
      obtain ⟨rfl, rfl⟩ := rl
      have room : a.length + 1 < scanBound := Nat.lt_of_lt_of_le (m := 1001) (by omega) (by decide)
      have eS : (a.any fun q => decide ((Sum.inr i : Key) = Sum.inr q)) = a.any fun q => decide (i = q) := by simp
      refine ⟨_, _, hD, ⟨Sum.inr i, _, _, ry.strI, rfl, room, rfl⟩, hN _ ?_⟩
      rw [eS]
      by_cases hk : (a.any fun q => decide (i = q)) = true
      · rw [if_pos hk, if_pos hk]
        refine ⟨nd, hl, ?_⟩
        congr 1
        funext j
        by_cases e : j = Sum.inr i
        · subst e; rw [eS, hk]; rfl
        · rw [decide_eq_false e, Bool.or_false]
      · rw [if_neg hk, if_neg hk]
        refine ⟨nodup_snoc nd hk, by rw [List.length_append]; simp; omega, ?_⟩
        rw [List.length_append]
        congr 1
        funext j
        rw [List.any_append]
        simp
    · cases had
  · rintro Z H a D o hD ⟨nd, hl, rfl⟩
    rw [if_neg Bool.false_ne_true, RdV]
    exact ⟨rfl, D, _, rfl, upd_same, .inl ⟨a, rfl, nd, rfl⟩⟩
theorem re_sc {s1 s2 : Bool} {ws : List Nat} {wi : TI} {it : MI} {g : TG} {mg : MG} {tt : TT} {c : MB} {te : TE} {m : ME} (hi : RefI N wi it) (hg : RefG N.calm ws g mg) (hc : RefB N.calm s1 tt c) (he : RefE N.calm s2 te m) :
    RefE N false (tSc2 N.C.P N.C.w wi g tt te ws) (eSc it mg c m ws) := fun env σ Z H F Q o r w => by
  unfold eSc at w
  cases e : eComp it mg c (lCons m lNil) ws addSI [] (fun ns => .set (ns.map .int)) env with
  | no =>
    simp only [e] at w
    exact .inr (re_scK hi hg hc he env σ Z H F Q o r w)
  | ok a e1 =>
    simp only [e] at w
    exact .inl (re_scO hi hg hc he env σ Z H F Q o r (by rw [e]; exact w))
  | ex x e1 =>
    simp only [e] at w
    exact .inl (re_scO hi hg hc he env σ Z H F Q o r (by rw [e]; exact w))
end
end Mi
set_option maxHeartbeats 4000000
namespace Mi
open PySem PySem.Spec PyProof.Rows L2 RZ Ov PpSet
/-! ### a text and its mirror -/
structure Ag (X : Cx) (N : Cn) : Prop where
  K : X.K = N.C.K
  P : X.prog = N.C.P
  w : X.w = N.C.w
def QE (X : Cx) (N : Cn) (st : Bool) (e : Expr) (m : ME) : Prop := ∃ t, PE X e t ∧ RefE N st t m
def QT (X : Cx) (N : Cn) (st : Bool) (e : Expr) (m : ME) : Prop := ∃ t, PE X e t ∧ RefT N st t m
def QB (X : Cx) (N : Cn) (st : Bool) (e : Expr) (m : MB) : Prop := ∃ t, PT X e t ∧ RefB N st t m
def QW (X : Cx) (N : Cn) (st : Bool) (e : Expr) (m : MB) : Prop := ∃ t, PW X e t ∧ RefB N st t m
def QA (X : Cx) (N : Cn) (st : Bool) (es : List Expr) (m : ML) : Prop := ∃ t, PA X es t ∧ RefA N st t m
def QTA (X : Cx) (N : Cn) (st : Bool) (es : List Expr) (m : ML) : Prop := ∃ t, PA X es t ∧ RefTA N st t m
def QM (X : Cx) (N : Cn) (st : Bool) (es : List Expr) (as : List Arg) : Prop := ∃ t, PA X es t ∧ RefM N st t as
def QO (X : Cx) (N : Cn) (e : Option Expr) (m : MO) : Prop := ∃ t, PO X e t ∧ RefO N t m
def QI (X : Cx) (N : Cn) (tg e : Expr) (m : MI) : Prop := ∃ t, PI X tg e t ∧ RefI N t m
def QG (X : Cx) (N : Cn) (ws : List Nat) (e : Expr) (m : MG) : Prop := ∃ t, PG X e t ∧ RefG N ws t m
def QGs (X : Cx) (N : Cn) (ws : List Nat) (n : Nat) (es : List Expr) (m : MGs) : Prop := ∃ t, PGs X es t ∧ RefGs N ws n t m
def QS (X : Cx) (N : Cn) (s : Stmt) (m : MS) : Prop := ∃ t, PS X s t ∧ RefS N t m
def QSs (X : Cx) (N : Cn) (s : List Stmt) (m : MS) : Prop := ∃ t, PSs X s t ∧ RefS N t m
section
variable {X : Cx} {N : Cn} {st s1 s2 s3 : Bool} {a b c e o : Expr} {es : List Expr} {m n l : ME} {pos apos : Pos}
theorem QE.t (h : QE X N st e m) : QT X N st e m := let ⟨t, p, r⟩ := h; ⟨t, p, r.toT⟩
theorem QT.k (h : QT X N st e m) : QE X N st e (eK m) := let ⟨t, p, r⟩ := h; ⟨t, p, re_k r⟩
theorem QE.fz (h : QE X N st e m) : QE X N st e (eFz m) := let ⟨t, p, r⟩ := h; ⟨t, p, re_fz r⟩
theorem q_int {i : Int} {j : Nat} : QE X N true (.Constant (.int i) j pos) (eC (.int i)) := ⟨_, pe_int, re_int⟩
theorem q_bl {i : Bool} {j : Nat} : QE X N true (.Constant (.bool i) j pos) (eC (.bl i)) := ⟨_, pe_bl, re_bl⟩
theorem q_str {i : Str} {j : Nat} : QE X N true (.Constant (.str i) j pos) (eC (.str i)) := ⟨_, pe_str, re_str⟩
theorem q_non {j : Nat} : QE X N true (.Constant .none j pos) (eC .non) := ⟨_, pe_non, re_non⟩
theorem qv (i : Nat) {x : Str} (hN : X.N[i]? = some x := by rfl) (hv : Vis X.env.scope x := by first | exact Or.inl rfl | exact Or.inr (Or.inl rfl) | exact Or.inr (Or.inr rfl)) (hd : (x == ("__debug__" : Str)) = false := by decide) (hcd : (x == ("__classdict__" : Str)) = false := by decide) :
    QT X N true (.Name x pos) (eV i) := ⟨_, pe_var hN hv hd hcd, rt_v⟩
theorem qmv (i : Nat) {x : Str} (hN : X.N[i]? = some x := by rfl) (hv : Vis X.env.scope x := by first | exact Or.inl rfl | exact Or.inr (Or.inl rfl) | exact Or.inr (Or.inr rfl)) (hd : (x == ("__debug__" : Str)) = false := by decide) (hcd : (x == ("__classdict__" : Str)) = false := by decide) :
    QE X N true (.Name x pos) (eMv i) := ⟨_, pe_var hN hv hd hcd, re_mv⟩
/-- a constant of the module -/
theorem q_gl {x : Str} {v : V} {d : D} (h : ∃ u, X.mg x = some u ∧ RelV v u) (hd : ∀ C Z H, RdV C Z H d v []) (hg : Gl X x := by rfl) (hdb : (x == ("__debug__" : Str)) = false := by decide) : QE X N true (.Name x pos) (eC d) := by
  obtain ⟨u, h1, h2⟩ := h
  exact ⟨_, pe_glob hg h1 h2 hdb, re_c fun Z H => hd N.C Z H⟩
theorem gl_int {i : Int} : ∀ C Z H, RdV C Z H (.int i) (.int i) [] := fun _ _ _ => rd_int
theorem gl_str {i : Str} : ∀ C Z H, RdV C Z H (.str i) (.str i) [] := fun _ _ _ => rd_str
/-! operators -/
theorem q_op {op : Operator} {r : R2} {f : D → D → Option D} (ho : OpR X (binaryOp op) r) (hf : Fn2 N.C r f) (ha : QT X N s1 a m) (hb : QT X N true b n) : QE X N s1 (.BinOp a op b pos) (e2 f m n) :=
  let ⟨_, p, q⟩ := ha; let ⟨_, p', q'⟩ := hb; ⟨_, pe_op ho p p', re_op hf q q'⟩
theorem q_opk {op : Operator} {r : R2} {f : D → D → Option D} (ho : OpR X (binaryOp op) r) (hf : Fn2 N.C r f) (ha : QE X N s1 a m) (hb : QT X N s2 b n) : QE X N (s1 && s2) (.BinOp a op b pos) (e2 f m n) :=
  let ⟨_, p, q⟩ := ha; let ⟨_, p', q'⟩ := hb; ⟨_, pe_op ho p p', re_opk hf q q'⟩
theorem q_cmp {op : CmpOp} {r : R2} {f : D → D → Option D} (ho : OpR X (compareOp op) r) (hf : Fn2 N.C r f) (ha : QT X N s1 a m) (hb : QT X N true b n) (hm : behindInMarks op b = false := by first | exact nomark _ | rfl) : QE X N s1 (.Compare a [op] [b] pos) (e2 f m n) :=
  let ⟨_, p, q⟩ := ha; let ⟨_, p', q'⟩ := hb; ⟨_, pe_cmpR ho p p' hm, re_op hf q q'⟩
theorem q_tcmp {op : CmpOp} {r : R2} {f : D → D → Option D} (ho : OpR X (compareOp op) r) (hf : Fn2 N.C r f) (ha : QT X N s1 a m) (hb : QT X N true b n) (hm : behindInMarks op b = false := by first | exact nomark _ | rfl) : QB X N s1 (.Compare a [op] [b] pos) (bB (e2 f m n)) :=
  let ⟨_, p, q⟩ := ha; let ⟨_, p', q'⟩ := hb; ⟨_, pt_cmpR ho p p' hm, rb_test (re_op hf q q').toT⟩
theorem q_tcmpk {op : CmpOp} {r : R2} {f : D → D → Option D} (ho : OpR X (compareOp op) r) (hf : Fn2 N.C r f) (ha : QE X N s1 a m) (hb : QT X N s2 b n) (hm : behindInMarks op b = false := by first | exact nomark _ | rfl) : QB X N (s1 && s2) (.Compare a [op] [b] pos) (bB (e2 f m n)) :=
  let ⟨_, p, q⟩ := ha; let ⟨_, p', q'⟩ := hb; ⟨_, pt_cmpR ho p p' hm, rb_test (re_opk hf q q').toT⟩
/-- a op b op' c -/
def eChain (f f' : D → D → Option D) (m n l : ME) : ME := fun env => (m env).bind fun x e => (n e).bind fun y e => match f x y with
  | some (.bl true) => (l e).bind fun z e => lift (f' y z) e
  | some (.bl false) => .ok (.bl false) e
  | _ => .no
theorem re_chain {t u v : TE} {r r' : R2} {f f' : D → D → Option D} (hf : Fn2 N.C r f) (hf' : Fn2 N.C r' f') (h : RefT N s1 t m) (hu : RefT N true u n) (hv : RefT N true v l) : RefE N s1 (tChain r r' t u v) (eChain f f' m n l) := fun env σ Z H F Q o re w => by
  refine h env σ Z H F _ o re (w.bind.mono (Pin.refl _ _) (Ext.refl o) ?_)
  intro d env1 k v1 Z1 H1 Fd F1 x1 rd r1 sm1
  refine hu env1 σ Z1 H1 F1 _ x1.ok r1 ((Wp.bind (k.mono (Pin.refl _ _) x1 fun _ _ z => z)).mono (Pin.refl _ _) (Ext.refl x1.ok) ?_)
  intro d2 env2 k2 v2 Z2 H2 Fd2 F2 x2 rd2 r2 sm2
  have rd' := rd.same x2.zz (sm2 rfl)
  cases hfd : f d d2 with
  | none => simp only [hfd] at k2; exact k2.elim
  | some q =>
  cases q with
  | bl b =>
    cases b with
    | false =>
      simp only [hfd] at k2
      refine hf d v1 Fd d2 v2 Fd2 Z2 H2 F2 _ _ x2.ok rd' rd2 hfd ?_
      intro u0 Z3 H3 Fv3 y3 ru s3
      refine ⟨false, ru.blI, ?_⟩
      rw [if_neg Bool.false_ne_true]
      exact k2 _ Z3 H3 [] F2 ((x1.trans x2).trans y3.right) rd_bl (r2.same y3.zz s3) fun z => ((sm1 z).trans (sm2 rfl)).trans s3
    | true =>
      simp only [hfd] at k2
      refine hf d v1 Fd d2 v2 Fd2 Z2 H2 F2 _ _ x2.ok rd' rd2 hfd ?_
      intro u0 Z3 H3 Fv3 y3 ru s3
      refine ⟨true, ru.blI, ?_⟩
      rw [if_pos rfl]
      have r3 := r2.same y3.zz s3
      refine hv env2 σ Z3 H3 F2 _ y3.right.ok r3 ((Wp.bind (k2.mono (Pin.refl _ _) (x2.trans y3.right) fun _ _ z => z)).mono (Pin.refl _ _) (Ext.refl y3.right.ok) ?_)
      intro d4 env4 k4 v4 Z4 H4 Fd4 F4 x4 rd4 r4 sm4
      obtain ⟨e, he⟩ := wp_lift k4
      exact hf' d2 v2 Fd2 d4 v4 Fd4 Z4 H4 F4 Q e x4.ok ((rd2.same y3.zz s3).same x4.zz (sm4 rfl)) rd4 he (post_end (((x1.trans x2).trans y3.right).trans x4) r4 (fun z => (((sm1 z).trans (sm2 rfl)).trans s3).trans (sm4 rfl)) he k4)
  | _ => simp only [hfd] at k2; exact k2.elim
theorem q_chain {op op' : CmpOp} {r r' : R2} {f f' : D → D → Option D} (ho : OpR X (compareOp op) r) (hf : Fn2 N.C r f) (ho' : OpR X (compareOp op') r') (hf' : Fn2 N.C r' f') (ha : QT X N s1 a m) (hb : QT X N true b n) (hc : QT X N true c l)
    (hm : lastMarks [op, op'] [b, c] = false := by with_unfolding_all rfl) : QE X N s1 (.Compare a [op, op'] [b, c] pos) (eChain f f' m n l) :=
  let ⟨_, p, q⟩ := ha; let ⟨_, p', q'⟩ := hb; let ⟨_, p2, q2⟩ := hc; ⟨_, pe_chain ho ho' p p' p2 hm, re_chain hf hf' q q' q2⟩
theorem q_tchain {op op' : CmpOp} {r r' : R2} {f f' : D → D → Option D} (ho : OpR X (compareOp op) r) (hf : Fn2 N.C r f) (ho' : OpR X (compareOp op') r') (hf' : Fn2 N.C r' f') (ha : QT X N s1 a m) (hb : QT X N true b n) (hc : QT X N true c l)
    (hm : lastMarks [op, op'] [b, c] = false := by with_unfolding_all rfl) : QB X N s1 (.Compare a [op, op'] [b, c] pos) (bB (eChain f f' m n l)) :=
  let ⟨_, p, q⟩ := ha; let ⟨_, p', q'⟩ := hb; let ⟨_, p2, q2⟩ := hc; ⟨_, pt_chain ho ho' p p' p2 hm, rb_test (re_chain hf hf' q q' q2).toT⟩
def fNeg : D → Option D
  | .int i => some (.int (-i))
  | _ => none
theorem q_neg (ha : QT X N s1 a m) : QE X N s1 (.UnaryOp .USub a pos) (e1 fNeg m) := by
  obtain ⟨_, p, q⟩ := ha
  refine ⟨_, pe_un un_neg p, re_un ?_ q⟩
  intro d v Fd Z H F Q e o rd hf k
  unfold fNeg at hf
  split at hf
  · cases hf
    exact ⟨_, rd.intI, post_val o k rd_int⟩
  · cases hf
/-! and, or, not as values -/
theorem q_one {op : BoolOp} (ha : QE X N s1 a m) : QE X N s1 (.BoolOp op [a] pos) m := let ⟨_, p, q⟩ := ha; ⟨_, pe_one p, q⟩
theorem q_and (ha : QT X N s1 a m) (hb : QE X N s2 (.BoolOp .And (b :: es) pos) n) : QE X N (s1 && s2) (.BoolOp .And (a :: b :: es) pos) (eAnd m n) := let ⟨_, p, q⟩ := ha; let ⟨_, p', q'⟩ := hb; ⟨_, pe_and p p', re_and q q'⟩
theorem q_or (ha : QT X N s1 a m) (hb : QE X N s2 (.BoolOp .Or (b :: es) pos) n) : QE X N (s1 && s2) (.BoolOp .Or (a :: b :: es) pos) (eOr m n) := let ⟨_, p, q⟩ := ha; let ⟨_, p', q'⟩ := hb; ⟨_, pe_or p p', re_or q q'⟩
theorem q_not (ha : QT X N s1 a m) : QE X N s1 (.UnaryOp .Not a pos) (eNot m) := let ⟨_, p, q⟩ := ha; ⟨_, pe_not p, re_not q⟩
variable {x y z : MB}
theorem q_ifx (hc : QB X N s1 c x) (ha : QE X N s2 a m) (hb : QE X N s3 b n) : QE X N (s1 && s2 && s3) (.IfExp c a b pos) (eIf x m n) := let ⟨_, p, q⟩ := hc; let ⟨_, p', q'⟩ := ha; let ⟨_, p2, q2⟩ := hb; ⟨_, pe_ifExp p p' p2, re_if q q' q2⟩
/-! tests -/
theorem q_tval (h : QT X N st e m) (he : ∀ whole, isTrue e X.env whole = (do let v ← whole; standAt e.pos; holding [v] (truthy v)) := by intro _; rfl) : QB X N st e (bB m) := let ⟨_, p, q⟩ := h; ⟨_, pt_val p he, rb_b q⟩
theorem q_tnot (h : QB X N st e x) : QB X N st (.UnaryOp .Not e pos) (bNot x) := let ⟨_, p, q⟩ := h; ⟨_, pt_not p, rb_not q⟩
theorem QW.t (h : QW X N st e x) : QB X N st e x := let ⟨_, p, q⟩ := h; ⟨_, p.pt, q⟩
theorem q_wand1 (h : QB X N st a x) : QW X N st (.BoolOp .And [a] pos) x := let ⟨_, p, q⟩ := h; ⟨_, pw_and1 p, q⟩
theorem q_wor1 (h : QB X N st a x) : QW X N st (.BoolOp .Or [a] pos) x := let ⟨_, p, q⟩ := h; ⟨_, pw_or1 p, q⟩
theorem q_wand (ha : QB X N s1 a x) (hb : QW X N s2 (.BoolOp .And (b :: es) pos) y) : QW X N (s1 && s2) (.BoolOp .And (a :: b :: es) pos) (bAnd x y) := let ⟨_, p, q⟩ := ha; let ⟨_, p', q'⟩ := hb; ⟨_, pw_and p p', rb_and q q'⟩
theorem q_wor (ha : QB X N s1 a x) (hb : QW X N s2 (.BoolOp .Or (b :: es) pos) y) : QW X N (s1 && s2) (.BoolOp .Or (a :: b :: es) pos) (bOr x y) := let ⟨_, p, q⟩ := ha; let ⟨_, p', q'⟩ := hb; ⟨_, pw_or p p', rb_or q q'⟩
/-! arguments -/
variable {ms : ML} {as : List Arg}
theorem qa_nil : QA X N true [] lNil := ⟨_, pa_nil, ra_nil⟩
theorem qa_cons (ha : QE X N s1 e m) (hs : QA X N s2 es ms) (h : starEach (e :: es) X.env = (false, eval e X.env) :: starEach es X.env := by rfl) : QA X N (s1 && s2) (e :: es) (lCons m ms) := let ⟨_, p, q⟩ := ha; let ⟨_, p', q'⟩ := hs; ⟨_, pa_cons p p' h, ra_cons q q'⟩
theorem qta_nil : QTA X N true [] lNil := ⟨_, pa_nil, rta_nil⟩
theorem qta_cons (ha : QT X N s1 e m) (hs : QTA X N true es ms) (h : starEach (e :: es) X.env = (false, eval e X.env) :: starEach es X.env := by rfl) : QTA X N s1 (e :: es) (lCons m ms) := let ⟨_, p, q⟩ := ha; let ⟨_, p', q'⟩ := hs; ⟨_, pa_cons p p' h, rta_cons q q'⟩
theorem QA.ta (h : QA X N st es ms) : QTA X N st es ms := let ⟨_, p, q⟩ := h; ⟨_, p, q.toTA⟩
theorem qm_nil : QM X N true [] [] := ⟨_, pa_nil, rm_nil⟩
theorem qm_e (ha : QE X N s1 e m) (hs : QM X N s2 es as) (h : starEach (e :: es) X.env = (false, eval e X.env) :: starEach es X.env := by rfl) : QM X N (s1 && s2) (e :: es) (.e m :: as) := let ⟨_, p, q⟩ := ha; let ⟨_, p', q'⟩ := hs; ⟨_, pa_cons p p' h, rm_e q q'⟩
theorem qm_io (i : Nat) {x : Str} (hs : QM X N s2 es as) (hN : X.N[i]? = some x := by rfl) (hv : Vis X.env.scope x := by first | exact Or.inl rfl | exact Or.inr (Or.inl rfl) | exact Or.inr (Or.inr rfl)) (hd : (x == ("__debug__" : Str)) = false := by decide) (hcd : (x == ("__classdict__" : Str)) = false := by decide)
    (h : starEach (.Name x pos :: es) X.env = (false, eval (.Name x pos) X.env) :: starEach es X.env := by rfl) : QM X N s2 (.Name x pos :: es) (.io i :: as) := let ⟨_, p', q'⟩ := hs; ⟨_, pa_cons (pe_var hN hv hd hcd) p' h, rm_io q'⟩
/-! displays, items, slices, attributes -/
theorem q_tup {k : Nat} (h : QA X N st es ms) : QE X N st (.Tuple es k pos) (eTup ms) := let ⟨_, p, q⟩ := h; ⟨_, pe_tup p, re_tup q⟩
theorem q_lst (h : QA X N st es ms) : QE X N st (.List es pos) (eLst ms) := let ⟨_, p, q⟩ := h; ⟨_, pe_lst p, re_lst q⟩
theorem q_ix (ag : Ag X N) (hu : X.A.units + 64 < cLine) (ha : QT X N s1 a m) (hb : QT X N true b n) (hs : PlainIx b := by intro _ _; rfl) : QT X N s1 (.Subscript a b pos) (e2 fIx m n) := let ⟨_, p, q⟩ := ha; let ⟨_, p', q'⟩ := hb; ⟨_, pe_ix (o_ix N.C.K hu ag.K) p p' hs, rt_op f_ix q q'⟩
theorem q_ixk (ag : Ag X N) (hu : X.A.units + 64 < cLine) (ha : QE X N s1 a m) (hb : QT X N s2 b n) (hs : PlainIx b := by intro _ _; rfl) : QT X N (s1 && s2) (.Subscript a b pos) (e2 fIx m n) := let ⟨_, p, q⟩ := ha; let ⟨_, p', q'⟩ := hb; ⟨_, pe_ix (o_ix N.C.K hu ag.K) p p' hs, rt_opk f_ix q q'⟩
theorem qo_n : QO X N none oN := ⟨_, po_none, ro_n⟩
theorem qo_s (h : QT X N true e m) : QO X N (some e) (oS m) := let ⟨_, p, q⟩ := h; ⟨_, po_some p, ro_s q⟩
variable {lo hi : Option Expr} {ml mh : MO} {p2 : Pos}
theorem q_sl (ag : Ag X N) (ha : QT X N s1 a m) (hl : QO X N lo ml) (hh : QO X N hi mh) : QE X N s1 (.Subscript a (.Slice lo hi none p2) pos) (eSl m ml mh) := let ⟨_, p, q⟩ := ha; let ⟨_, p', q'⟩ := hl; let ⟨_, p3, q3⟩ := hh; ⟨_, pe_slice (o_sl N.C.K ag.K) p p' p3, re_sl q q' q3⟩
theorem q_fld {cs : List String} {f : String} (ag : Ag X N) (hc : ∀ c ∈ cs, FldOk N.C c f) (ha : QT X N s1 a m) (hb : attributeBase a (PySem.Str.ofString f) X.env (eval a X.env) = eval a X.env := by rfl) : QT X N s1 (.Attribute a (PySem.Str.ofString f) pos) (eFld cs f m) := by
  obtain ⟨_, p, q⟩ := ha
  have := pe_fld (pos := pos) p hb
  rw [ag.K] at this
  exact ⟨_, this, rt_fld hc q⟩
/-! built-ins -/
theorem q_callB {r : List V → Hp → VK → Prop} {f : List D → Option D} {x : Str} {fid : String} {p : Pos} (hc : CallR X (.builtin fid) r) (hf : FnL N.C r f) (hm : X.mg x = none) (hv : bootBuiltins x = some (.builtin fid)) (ha : QTA X N st (e :: es) ms) (hg : Gl X x := by rfl)
    (hn : x ≠ "__name__" := by decide) (hdb : (x == ("__debug__" : Str)) = false := by decide) (he : starEach (e :: es) X.env = (false, eval e X.env) :: starEach es X.env := by rfl) (hpl : (backTo pos (starEach es X.env)).any (·.1) = false := by rfl) : QE X N st (.Call (.Name x p) (e :: es) [] pos) (eL f ms) := by
  obtain ⟨_, p', q⟩ := ha
  exact ⟨_, pe_callB hc hg hm hv p' hn hdb he hpl, re_cb hf q⟩
theorem q_callT {r : List V → Hp → VK → Prop} {f : List D → Option D} {x : Str} {T : String} {p : Pos} (hc : CallR X (.type T) r) (hf : FnL N.C r f) (hm : X.mg x = none) (hv : bootBuiltins x = some (.type T)) (ha : QTA X N st (e :: es) ms) (hg : Gl X x := by rfl)
    (hn : x ≠ "__name__" := by decide) (hdb : (x == ("__debug__" : Str)) = false := by decide) (he : starEach (e :: es) X.env = (false, eval e X.env) :: starEach es X.env := by rfl) (hpl : (backTo pos (starEach es X.env)).any (·.1) = false := by rfl) : QE X N st (.Call (.Name x p) (e :: es) [] pos) (eL f ms) := by
  obtain ⟨_, p', q⟩ := ha
  exact ⟨_, pe_callTy hc hg hm hv p' hn hdb he hpl, re_cb hf q⟩
/-- isinstance(a, T), T a built-in class -/
theorem q_isa {T : String} {f : Kd → Bool} {p p0 : Pos} (ag : Ag X N) (hT : ∀ k : Kd, kitB k.ty T = some (f k)) (hm : X.mg "isinstance" = none) (hmT : X.mg (PySem.Str.ofString T) = none) (hvT : bootBuiltins (PySem.Str.ofString T) = some (.type T)) (ha : QT X N st a m)
    (hg : Gl X "isinstance" := by rfl) (hgT : Gl X (PySem.Str.ofString T) := by rfl) (hnT : PySem.Str.ofString T ≠ "__name__" := by decide) (hdT : (PySem.Str.ofString T == ("__debug__" : Str)) = false := by decide)
    (hs0 : starEach [.Name (PySem.Str.ofString T) p0] X.env = (false, eval (.Name (PySem.Str.ofString T) p0) X.env) :: starEach [] X.env := by rfl)
    (he : starEach [a, .Name (PySem.Str.ofString T) p0] X.env = (false, eval a X.env) :: starEach [.Name (PySem.Str.ofString T) p0] X.env := by rfl) (hpl : (backTo pos (starEach [.Name (PySem.Str.ofString T) p0] X.env)).any (·.1) = false := by rfl) :
    QE X N st (.Call (.Name "isinstance" p) [a, .Name (PySem.Str.ofString T) p0] [] pos) (e1 (fIsa f) m) := by
  obtain ⟨t, p', q⟩ := ha
  have hc : CallR X (.builtin "isinstance") (rIsa X.K T f) := isa_mk hT
  rw [ag.K] at hc
  refine ⟨_, pe_callB hc hg hm (by decide +kernel) (pa_cons p' (pa_cons (pe_bltn (v := .ty T) hgT hmT hvT rfl hnT hdT) pa_nil hs0) he) (by decide) (by decide) he hpl, ?_⟩
  intro env σ Z H F Q o re w
  refine q env σ Z H F _ o re (w.bind.mono (Pin.refl _ _) (Ext.refl o) ?_)
  intro d env1 k v Z1 H1 Fd F1 x rd r1 sm
  obtain ⟨e, he⟩ := wp_lift k
  rw [he] at k
  unfold fIsa at he
  rw [Option.map_eq_some_iff] at he
  obtain ⟨kd, hk, rfl⟩ := he
  exact ⟨v, kd, rfl, rd.kd x.ok hk, k _ Z1 H1 [] F1 x rd_bl r1 sm⟩
/-! range as an argument -/
def eRg1 (m : ME) : Env → R (Int × Int) := fun env => (m env).bind fun d e => match d with | .int n => .ok (0, n) e | _ => .no
def eRg2 (m n : ME) : Env → R (Int × Int) := fun env => (m env).bind fun d e => (n e).bind fun d2 e => match d, d2 with | .int i, .int j => .ok (i, j) e | _, _ => .no
abbrev TRg := L2.St → Hp → (Int → Int → Hp → Prop) → Prop
def RefRg (N : Cn) (st : Bool) (t : TRg) (m : Env → R (Int × Int)) : Prop := ∀ env σ Z H F (Q : Int → Int → Hp → Prop), Ok N.C.T Z H F → RdE N.C Z H env σ F →
  Wp N σ Z H F (m env) (fun ij env' => ∀ Z' H' F', Ext N.C.T Z H F Z' H' F' → RdE N.C Z' H' env' σ F' → (st = true → Same H H') → Q ij.1 ij.2 H') → t σ H Q
def QR (X : Cx) (N : Cn) (st : Bool) (e : Expr) (m : Env → R (Int × Int)) : Prop := ∃ t, PRg X e t ∧ RefRg N st t m
theorem q_rg1 {p : Pos} (hm : X.mg "range" = none) (ha : QT X N st a m) (hg : Gl X "range" := by rfl) (na : starEach [a] X.env = (false, eval a X.env) :: starEach [] X.env := by rfl) : QR X N st (.Call (.Name "range" p) [a] [] pos) (eRg1 m) := by
  obtain ⟨t, p', q⟩ := ha
  refine ⟨_, prg_1 hg hm p' na, fun env σ Z H F Q o re w => ?_⟩
  refine q env σ Z H F _ o re (w.bind.mono (Pin.refl _ _) (Ext.refl o) ?_)
  intro d env1 k v Z1 H1 Fd F1 x rd r1 sm
  cases d with
  | int i => exact ⟨i, rd.intI, k Z1 H1 F1 x r1 sm⟩
  | _ => exact k.elim
def rgL (i j : Int) : List D := (List.range (j - i).toNat).map fun k : Nat => .int (i + (k : Int))
def rgOk (i j : Int) : Bool := decide (-(2 ^ 62) ≤ i ∧ i < 2 ^ 62 ∧ -(2 ^ 62) ≤ j ∧ j < 2 ^ 62 ∧ (j - i).toNat ≤ 2 ^ 24)
def eLRg (g : Env → R (Int × Int)) : ME := fun env => (g env).bind fun ij e => if rgOk ij.1 ij.2 then .ok (.lst true (rgL ij.1 ij.2)) e else .no
def eTRg (g : Env → R (Int × Int)) : ME := fun env => (g env).bind fun ij e => if rgOk ij.1 ij.2 then .ok (.tup (rgL ij.1 ij.2)) e else .no
theorem rd_rg {C : Ct} {Z H : Hp} {i j : Int} : RdL C Z H (rgL i j) (rgV i j) [] := by
  unfold rgL rgV
  generalize List.range (j - i).toNat = l
  induction l with
  | nil => exact RdL.nil0
  | cons k r ih => exact RdL.cons0 rd_int ih
variable {g : Env → R (Int × Int)}
theorem q_lrg {p : Pos} (hm : X.mg "list" = none) (ha : QR X N st e g) (hc : X.calm = true := by rfl) (hg : Gl X "list" := by rfl) (na : starEach [e] X.env = (false, eval e X.env) :: starEach [] X.env := by rfl) : QE X N st (.Call (.Name "list" p) [e] [] pos) (eLRg g) := by
  obtain ⟨t, p', q⟩ := ha
  refine ⟨_, pe_listRg hc hg hm p' na, fun env σ Z H F Q o re w => ?_⟩
  refine q env σ Z H F _ o re (w.bind.mono (Pin.refl _ _) (Ext.refl o) ?_)
  intro ij env1 k Z1 H1 F1 x r1 sm
  split at k
  case isFalse => exact k.elim
  rename_i hz
  refine ⟨by simpa [rgOk, RgOk] using hz, fun l hl => ?_⟩
  have y := Ext.new (o := .lst (rgV ij.1 ij.2)) x.ok hl
  refine k (.ref l) Z1 _ [l] F1 (x.trans y) ?_ (r1.same y.zz (same_new hl)) fun z => (sm z).trans (same_new hl)
  rw [RdV]
  exact ⟨l, _, [], rfl, upd_same, rfl, rd_rg⟩
/-! dicts -/
def eDNew : ME := fun env => .ok (.dct true []) env
end
end Mi
set_option maxHeartbeats 4000000
namespace Mi
open PySem PySem.Spec PyProof.Rows L2 RZ Ov PpSet
section
variable {X : Cx} {N : Cn} {st s1 s2 s3 : Bool} {a b c e o tg : Expr} {es : List Expr} {m n l : ME} {pos apos p : Pos} {ms : ML} {as : List Arg} {mi : MI}
/-! ### what is walked -/
theorem pi_seqU {l : Expr} {tl : TE} (hl : PE X l tl) : PI X tg l (iSeqU X.K tl) := by
  refine ⟨fun pins s σ H R I h => thn (hl.run pins s σ H _ I h) fun v sA ⟨x, HA, IA, rA, ad, eq, q⟩ => ?_⟩
  subst eq
  cases rA
  have fp : ∀ b ∈ [sA.heap.objs.size], FpOk X pins HA b := fun b hb => by
    obtain rfl : b = sA.heap.objs.size := by simpa using hb
    exact IA.fpOk (Nat.le_refl _) (IA.hok.fresh (Nat.le_refl _))
  rcases q with ⟨⟨xs, hx⟩, q⟩ | ⟨⟨xs, hx⟩, q⟩
  · obtain ⟨its, rv, pl, hz⟩ := IA.list hx
    exact wpAny_pyIter_list pl.isList ⟨sA.heap.objs.size, [sA.heap.objs.size], _, _, HA, rfl, IA.kept (t' := sA.toks) fun b o e => Heap.get?_push_of_some _ e, turn_list ad _, ⟨_, Heap.get?_push_size _ rfl, rfl, rfl⟩, fp, q⟩
  · obtain ⟨its, rv, pl, hz⟩ := IA.tuple hx
    exact wpAny_pyIter_tuple (show sA.heap.IsTuple ad its.toArray from pl) ⟨sA.heap.objs.size, [sA.heap.objs.size], _, _, HA, rfl, IA.kept (t' := sA.toks) fun b o e => Heap.get?_push_of_some _ e, turn_tuple ad _, ⟨_, Heap.get?_push_size _ rfl, rfl, rfl⟩, fp, q⟩
theorem qi_seq (ag : Ag X N) (h : QE X N st e m) : QI X N tg e (iSeq m) := by
  obtain ⟨t, p', q⟩ := h
  have := pi_seqU (tg := tg) p'
  rw [ag.K] at this
  exact ⟨_, this, ri_seq q⟩
theorem qi_str (h : QT X N st e m) : QI X N tg e (iStrD m) := let ⟨_, p', q⟩ := h; ⟨_, pi_str p', ri_str q⟩
theorem qi_rng1 (hm : X.mg "range" = none) (ha : QTA X N st [a] ms) (hg : Gl X "range" := by rfl) (hs : starEach [a] X.env = [(false, eval a X.env)] := by rfl) : QI X N tg (.Call (.Name "range" p) [a] [] pos) (iOf rng1 ms) := let ⟨_, p', q⟩ := ha; ⟨_, pi_range1 hg hm p' hs, ri_rng1 q⟩
variable {elts : List Expr} {kk : Nat} {tpos : Pos}
theorem qi_zip (ag : Ag X N) (hm : X.mg "zip" = none) (ha : QTA X N st [a, b] ms) (hg : Gl X "zip" := by rfl)
    (hs : starEach [a, b] X.env = (false, eval a X.env) :: starEach [b] X.env := by rfl) (hpl : (backTo pos (starEach [b] X.env)).any (·.1) = false := by rfl) : QI X N (.Tuple elts kk tpos) (.Call (.Name "zip" p) [a, b] [] pos) (iOf zipD ms) := by
  obtain ⟨_, p', q⟩ := ha
  have := pi_zipA (X := X) (p := p) (pos := pos) (tpos := tpos) (elts := elts) (kk := kk) hg hm p' hs hpl
  rw [ag.K] at this
  exact ⟨_, this, ri_zip q⟩
theorem qi_enum (ag : Ag X N) (hm : X.mg "enumerate" = none) (ha : QTA X N st [a] ms) (hg : Gl X "enumerate" := by rfl) (hs : starEach [a] X.env = [(false, eval a X.env)] := by rfl) : QI X N (.Tuple elts kk tpos) (.Call (.Name "enumerate" p) [a] [] pos) (iOf enumD ms) := by
  obtain ⟨_, p', q⟩ := ha
  have := pi_enum (X := X) (p := p) (pos := pos) (tpos := tpos) (elts := elts) (kk := kk) hg hm p' hs
  rw [ag.K] at this
  exact ⟨_, this, ri_enum q⟩
/-! ### targets -/
variable {mg : MG} {ws ws2 : List Nat} {mgs : MGs} {k : Nat}
theorem qg_n (i : Nat) {x : Str} (hN : X.N.Nodup) (hi : X.N[i]? = some x := by rfl) (hx : Loc X.env.scope x := by first | exact Or.inl rfl | exact Or.inr rfl) (hf : X.fn x = true ∨ X.env.scope.names.lookup x = some .local := by first | exact .inl rfl | exact .inr rfl) : QG X N [i] (.Name x pos) (gN i) := ⟨_, pg_name hN hi hx hf, rg_n⟩
theorem qgs_nil : QGs X N [] 0 [] gsNil := ⟨_, pgs_nil, rgs_nil⟩
theorem qgs_cons {nn : Nat} (h : QG X N ws e mg) (hs : QGs X N ws2 nn es mgs) (ha : (assignEach (e :: es) X.env).map (·.2) = assign e X.env :: (assignEach es X.env).map (·.2) := by rfl) : QGs X N (ws ++ ws2) (nn + 1) (e :: es) (gsCons mg mgs) := let ⟨_, p', q⟩ := h; let ⟨_, p2, q2⟩ := hs; ⟨_, pgs_cons p' p2 ha, rgs_cons q q2⟩
theorem qg_t {nn : Nat} (ag : Ag X N) (h : QGs X N ws nn es mgs) (hc : X.calm = true := by rfl) (hn : (assignEach es X.env).length = nn := by rfl) (hst : (assignEach es X.env).findIdx? (·.1) = none := by rfl) : QG X N ws (.Tuple es k pos) (gT mgs) := by
  obtain ⟨_, p', q⟩ := h
  have := pg_tup (X := X) (pos := pos) (k := k) hc p' hn hst
  rw [ag.K] at this
  exact ⟨_, this, rg_t q⟩
/-! ### comprehensions -/
theorem Ag.blk {sh : Shared} {Hh : Hp} {scope : Scope} {env : PySem.Env} {fp : List Addr} (ag : Ag X N) : Ag (X.blk sh Hh scope env fp) N.calm := ⟨ag.K, ag.P, ag.w⟩
def QTs (X : Cx) (N : Cn) (st : Bool) (ifs : List Expr) (m : MB) : Prop := ∃ t, PTs X ifs t ∧ RefB N st t m
theorem qts_nil : QTs X N true [] bYes := ⟨_, pts_nil, rb_yes⟩
variable {ifs : List Expr} {scope : Scope} {own : List (Str × Nat)} {mc : MB} {tgt iter elt : Expr}
/-- the reading that a mirror gives -/
def tOfE (N : Cn) (st : Bool) (m : ME) : TE := fun σ H Q => ∃ env Z F, Ok N.C.T Z H F ∧ RdE N.C Z H env σ F ∧
  Wp N σ Z H F (m env) (fun d env' => ∀ v Z' H' Fv F', Ext N.C.T Z H F Z' H' (Fv ++ F') → RdV N.C Z' H' d v Fv → RdE N.C Z' H' env' σ F' → (st = true → Same H H') → Q v H')
theorem tofE : RefE N st (tOfE N st m) m := fun env σ Z H F Q o r w => ⟨env, Z, F, o, r, w⟩
theorem QE.can (h : QE X N st e m) : PE X e (tOfE N st m) := by
  obtain ⟨t, p', q⟩ := h
  exact ⟨fun pins s σ H Q I ⟨env, Z, F, ok, r, w⟩ => p'.run pins s σ H Q I (q env σ Z H F Q ok r w)⟩
def tOfB (N : Cn) (st : Bool) (m : MB) : TT := fun σ H Q => ∃ env Z F, Ok N.C.T Z H F ∧ RdE N.C Z H env σ F ∧
  Wp N σ Z H F (m env) (fun b env' => ∀ Z' H' F', Ext N.C.T Z H F Z' H' F' → RdE N.C Z' H' env' σ F' → (st = true → Same H H') → Q b H')
theorem tofB {x : MB} : RefB N st (tOfB N st x) x := fun env σ Z H F Q o r w => ⟨env, Z, F, o, r, w⟩
theorem QTs.can {x : MB} (h : QTs X N st ifs x) : PTs X ifs (tOfB N st x) := by
  obtain ⟨t, p', q⟩ := h
  exact ⟨fun pins s σ H Q I ⟨env, Z, F, ok, r, w⟩ => p'.run pins s σ H Q I (q env σ Z H F Q ok r w)⟩
def tOfG (N : Cn) (ws : List Nat) (m : MG) : TG := fun v σ H Q => ∃ env Z F Fv d env', Ok N.C.T Z H (Fv ++ F) ∧ RdE N.C Z H env σ F ∧ RdV N.C Z H d v Fv ∧ m d env = some env' ∧
  (∀ σ' F', F'.Nodup → (∀ a ∈ F', a ∈ Fv ++ F) → (σ'.length = σ.length ∧ ∀ i, i ∉ ws → σ'[i]? = σ[i]?) → RdE N.C Z H env' σ' F' → Q σ' H)
theorem tofG : RefG N ws (tOfG N ws mg) mg := fun env σ Z H F Fv d v Q env' o r rv e k => ⟨env, Z, F, Fv, d, env', o, r, rv, e, k⟩
theorem QG.can (h : QG X N ws e mg) : PG X e (tOfG N ws mg) := by
  obtain ⟨t, p', q⟩ := h
  exact ⟨fun pins s σ H v u Q I rv0 ⟨env, Z, F, Fv, d, env', ok, r, rv, em, w⟩ => p'.run pins s σ H v u Q I rv0 (q env σ Z H F Fv d v Q env' ok r rv em w)⟩
/-- the own names of a block, in order -/
theorem q_lc (hN : X.N.Nodup) (hi : QI X N tgt iter mi) (ok : BlkOk X.N X.env.scope scope own)
    (hg : ∀ (sh : Shared) (Hh : Hp) (A0 : Addr) (cl : List (Str × Addr)) (fp : List Addr), QG (X.blk sh Hh scope (compEnvC scope cl A0 X.env) fp) N.calm (own.map (·.2)) tgt mg)
    (ht : ∀ (sh : Shared) (Hh : Hp) (A0 : Addr) (cl : List (Str × Addr)) (fp : List Addr), QTs (X.blk sh Hh scope (compEnvC scope cl A0 X.env) fp) N.calm s1 ifs mc)
    (he : ∀ (sh : Shared) (Hh : Hp) (A0 : Addr) (cl : List (Str × Addr)) (fp : List Addr), QE (X.blk sh Hh scope (compEnvC scope cl A0 X.env) fp) N.calm s2 elt m)
    (hc : X.calm = true := by rfl) (hs : ∀ x, foldedSetIterable iter X.env x = pure x := by intro _; rfl) :
    QE X N false (.ListComp elt [⟨tgt, iter, ifs, 0⟩] scope pos) (eLc mi mg mc m (own.map (·.2))) := by
  obtain ⟨wi, p', q⟩ := hi
  exact ⟨_, pe_lc hc hN p' ok (fun a b c d e => (hg a b c d e).can) (fun a b c d e => (ht a b c d e).can) (fun a b c d e => (he a b c d e).can) hs, re_lc q tofG tofB tofE⟩
theorem q_dc {kx vx : Expr} {mk mv : ME} (hN : X.N.Nodup) (hi : QI X N tgt iter mi) (ok : BlkOk X.N X.env.scope scope own)
    (hg : ∀ (sh : Shared) (Hh : Hp) (A0 : Addr) (cl : List (Str × Addr)) (fp : List Addr), QG (X.blk sh Hh scope (compEnvC scope cl A0 X.env) fp) N.calm (own.map (·.2)) tgt mg)
    (ht : ∀ (sh : Shared) (Hh : Hp) (A0 : Addr) (cl : List (Str × Addr)) (fp : List Addr), QTs (X.blk sh Hh scope (compEnvC scope cl A0 X.env) fp) N.calm s1 ifs mc)
    (hk : ∀ (sh : Shared) (Hh : Hp) (A0 : Addr) (cl : List (Str × Addr)) (fp : List Addr), QE (X.blk sh Hh scope (compEnvC scope cl A0 X.env) fp) N.calm s2 kx mk)
    (hv : ∀ (sh : Shared) (Hh : Hp) (A0 : Addr) (cl : List (Str × Addr)) (fp : List Addr), QE (X.blk sh Hh scope (compEnvC scope cl A0 X.env) fp) N.calm s3 vx mv)
    (hc : X.calm = true := by rfl) (hs : ∀ x, foldedSetIterable iter X.env x = pure x := by intro _; rfl) :
    QE X N false (.DictComp kx vx [⟨tgt, iter, ifs, 0⟩] scope pos) (eDc mi mg mc mk mv (own.map (·.2))) := by
  obtain ⟨wi, p', q⟩ := hi
  exact ⟨_, pe_dc hc hN p' ok (fun a b c d e => (hg a b c d e).can) (fun a b c d e => (ht a b c d e).can) (fun a b c d e => (hk a b c d e).can) (fun a b c d e => (hv a b c d e).can) hs, re_dc q tofG tofB tofE tofE⟩
theorem qs_setSc {i : Nat} {y : Str} {py spos : Pos} (ag : Ag X N) (hN : X.N.Nodup) (hi : QI X N tgt iter mi) (ok : BlkOk X.N X.env.scope scope own)
    (hg : ∀ (sh : Shared) (Hh : Hp) (A0 : Addr) (cl : List (Str × Addr)) (fp : List Addr), QG (X.blk sh Hh scope (compEnvC scope cl A0 X.env) fp) N.calm (own.map (·.2)) tgt mg)
    (ht : ∀ (sh : Shared) (Hh : Hp) (A0 : Addr) (cl : List (Str × Addr)) (fp : List Addr), QTs (X.blk sh Hh scope (compEnvC scope cl A0 X.env) fp) N.calm s1 ifs mc)
    (he : ∀ (sh : Shared) (Hh : Hp) (A0 : Addr) (cl : List (Str × Addr)) (fp : List Addr), QE (X.blk sh Hh scope (compEnvC scope cl A0 X.env) fp) N.calm s2 elt m)
    (hsw : swapsWith (.SetComp elt [⟨tgt, iter, ifs, 0⟩] scope pos) (some (.Name y py)) spos.line X.env = pure true) (hpin : gOk [i] N.pin = true := by rfl)
    (hy : X.N[i]? = some y := by rfl) (hyl : X.env.scope.names.lookup y = some .local := by rfl) (hc : X.calm = true := by rfl) (hs : ∀ x, foldedSetIterable iter X.env x = pure x := by intro _; rfl) :
    QS X N (.Assign [.Name y py] (.SetComp elt [⟨tgt, iter, ifs, 0⟩] scope pos) spos) (sAsg (gN i) (eSc mi mg mc m (own.map (·.2)))) := by
  obtain ⟨wi, p', q⟩ := hi
  have pO := ps_setScG (X := X) (setG_O) hc hN hy hyl hsw p' ok (fun a b c d e => (hg a b c d e).can) (fun a b c d e => (ht a b c d e).can) (fun a b c d e => (he a b c d e).can) hs
  have pK := ps_setScG (X := X) (setG_K) hc hN hy hyl hsw p' ok (fun a b c d e => (hg a b c d e).can) (fun a b c d e => (ht a b c d e).can) (fun a b c d e => (he a b c d e).can) hs
  refine ⟨tAsg (tSc2 X.prog X.w wi (tOfG N.calm (own.map (·.2)) mg) (tOfB N.calm s1 mc) (tOfE N.calm s2 m) (own.map (·.2))) (gName i), ⟨fun pins s σ H D0 I h => ?_⟩, ?_⟩
  · rcases h with h | h
    · exact pO.run pins s σ H D0 I h
    · exact pK.run pins s σ H D0 I h
  · rw [ag.P, ag.w]
    exact rs_asg (re_sc q tofG tofB tofE) rg_n hpin
theorem sw_set {elt : Expr} {gs : List Comprehension} {scope : Scope} {pos py : Pos} {y : Str} {ln : Nat} {env : PySem.Env} (hk : env.scope.kind = .function) (hy : env.scope.names.lookup y = some .local) (hl : (py.line == pos.line) = true)
    (ha : (scope.names.any fun (n, k) => n == y && (k == .local || k == .cell)) = false) : swapsWith (.SetComp elt gs scope pos) (some (.Name y py)) ln env = pure true := by
  have e1 : env.kindOf y = some .local := hy
  have e2 : env.blockKind = .function := by unfold PySem.Env.blockKind; rw [hk]; rfl
  unfold swapsWith
  simp only [e2, e1, ha, Expr.pos, hl]
  rfl
end
end Mi
set_option maxHeartbeats 4000000
namespace Mi
open PySem PySem.Spec PyProof.Rows L2 RZ Ov PpSet
open LamX (CodeO Tabs TabS)
section
variable {X : Cx} {N : Cn} {st s1 s2 s3 : Bool} {a b c e o tg : Expr} {es : List Expr} {m n l : ME} {pos apos cpos p : Pos} {ms : ML} {as : List Arg} {mi : MI} {mg : MG} {ws : List Nat}
/-! ### places -/
def QP (X : Cx) (N : Cn) (o : Expr) (p : Plc) : Prop := PE X o (tPlc N.C.K p) ∧ PlcOk N.C p
theorem qp_v (i : Nat) {x : Str} (hN : X.N[i]? = some x := by rfl) (hv : Vis X.env.scope x := by first | exact Or.inl rfl | exact Or.inr (Or.inl rfl) | exact Or.inr (Or.inr rfl)) (hd : (x == ("__debug__" : Str)) = false := by decide) (hcd : (x == ("__classdict__" : Str)) = false := by decide) :
    QP X N (.Name x pos) (i, none) := ⟨pe_var hN hv hd hcd, trivial⟩
/-! ### methods of lists -/
theorem q_lm {name : Str} {id : String} {r : V → List V → Hp → VK → Prop} {f : List D → List D → Option (D × List D)} {pl : Plc} (ag : Ag X N) (slot : Slot "list" name id) (hty : typeOf (.builtin id) = pure (.type "method_descriptor")) (hm : MtR X id r) (hf : FnM N.C r f) (hp : QP X N o pl) (ha : QA X N st (e :: es) ms) (hs : plcSt pl st = true := by rfl)
    (hbase : attributeBase o name X.env (eval o X.env) = eval o X.env := by rfl)
    (hfew : ((backTo cpos (starEach (e :: es) X.env)).all (fun x => !x.1) && (backToKw cpos (keywordEach [] X.env)).all (fun x => x.1.isSome) &&
      decide ((e :: es).length + ([] : List Keyword).length + (if ([] : List Keyword).isEmpty then 0 else 1) < 30)) = true := by rfl)
    (hline : (apos.endLine == cpos.line) = true := by rfl) (hst : starEach (e :: es) X.env = (false, eval e X.env) :: starEach es X.env := by rfl)
    (hpl : (backTo cpos (starEach es X.env)).any (·.1) = false := by rfl) : QE X N false (.Call (.Attribute o name apos) (e :: es) [] cpos) (mList pl ms f) := by
  obtain ⟨t, p', q⟩ := ha
  have := pe_bm PySem.F.plainAttrs_list slot hty hm hp.1 p' hbase hfew hline hst hpl
  rw [ag.K] at this
  exact ⟨_, this, re_list hf hp.2 q hs⟩
/-! ### calls -/
theorem we_none {xc : Bool} {E : XK} (h : N.px = none) : ∀ σ, WE' N xc σ E := fun σ => by unfold WE'; rw [h]; trivial
theorem q_call {k j : Nat} {x : Str} {ps : List Str} {io : List Bool} {f : Fun} {xc : Bool} (cl : Cal X.prog X.w X.K X.mg X.base CX0 k x ps (spM N.C xc io f)) (hr : Rm j X.A) (ha : QM X N st (e :: es) as) (hio : ioOf as = io := by rfl) (hpx : N.px = none := by rfl) (hk : k ≤ j := by decide) (hg : Gl X x := by rfl)
    (hdb : (x == ("__debug__" : Str)) = false := by decide) (he : starEach (e :: es) X.env = (false, eval e X.env) :: starEach es X.env := by rfl) (hpl : (backTo pos (starEach es X.env)).any (·.1) = false := by rfl) :
    QE X N false (.Call (.Name x p) (e :: es) [] pos) (eCall f as) := by
  obtain ⟨t, p', q⟩ := ha
  exact ⟨_, pc cl hr p' hk hg hdb he hpl, re_call q hio (we_none hpx)⟩
theorem q_new {k j : Nat} {cn : String} {C : Addr} {x : Str} {ps : List Str} {io : List Bool} {f : Fun} {xc : Bool} (cl : Mak X.prog X.w X.K X.mg X.base CX0 k x C ps (spM N.C xc io f)) (hr : Rm j X.A) (hC : N.C.cls cn = some C) (ha : QM X N st (e :: es) as) (hio : true :: ioOf as = io := by rfl) (hpx : N.px = none := by rfl) (hk : k + 1 ≤ j := by decide) (hg : Gl X x := by rfl)
    (hdb : (x == ("__debug__" : Str)) = false := by decide) (he : starEach (e :: es) X.env = (false, eval e X.env) :: starEach es X.env := by rfl) (hpl : (backTo pos (starEach es X.env)).any (·.1) = false := by rfl) :
    QE X N false (.Call (.Name x p) (e :: es) [] pos) (eNew cn f as) := by
  obtain ⟨t, p', q⟩ := ha
  exact ⟨_, pmk cl hr p' hk hg hdb he hpl, re_new hC q hio (we_none hpx)⟩
/-! ### statements -/
variable {s : Stmt} {ss sa sb : List Stmt} {mS nS : MS} {mB : MB}
theorem qss_nil : QSs X N [] sPass := ⟨_, pss_nil, rs_pass⟩
theorem qss_one (h : QS X N s mS) : QSs X N [s] mS := let ⟨_, p', q⟩ := h; ⟨_, pss_one p', q⟩
theorem qss_cons (h : QS X N s mS) (hs : QSs X N ss nS) : QSs X N (s :: ss) (sSeq mS nS) := let ⟨_, p', q⟩ := h; let ⟨_, p2, q2⟩ := hs; ⟨_, pss_cons p' p2, rs_seq q q2⟩
theorem qs_never : QS X N s sNo := ⟨tNever, ps_never, rs_never⟩
theorem qs_ret (h : QE X N st e m) : QS X N (.Return (some e) pos) (sRet m) := let ⟨_, p', q⟩ := h; ⟨_, ps_ret p', rs_ret q⟩
theorem qs_expr (h : QT X N st e m) (hs : swapsWith e none pos.line X.env = pure false := by rfl) : QS X N (.Expr e pos) (sExpr m) := let ⟨_, p', q⟩ := h; ⟨_, ps_expr p' hs, rs_expr q⟩
theorem qs_if (h : QB X N st c mB) (ha : QSs X N sa mS) (hb : QSs X N sb nS) : QS X N (.If c sa sb pos) (sIf mB mS nS) := let ⟨_, p', q⟩ := h; let ⟨_, p2, q2⟩ := ha; let ⟨_, p3, q3⟩ := hb; ⟨_, ps_if p' p2 p3, rs_if q q2 q3⟩
theorem qs_while (hp : PassesOwn (model X.prog X.w) X.A X.env X.xe) (h : QB X N st c mB) (ha : QSs X N sa mS) : QS X N (.While c sa [] pos) (sWhile mB mS) := let ⟨_, p', q⟩ := h; let ⟨_, p2, q2⟩ := ha; ⟨_, ps_while hp p' p2, rs_while q q2⟩
theorem qs_for {iter : Expr} (hp : PassesOwn (model X.prog X.w) X.A X.env X.xe) (hi : QI X N tg iter mi) (hg : QG X N ws tg mg) (ha : QSs X N sa mS) (hpin : gOk ws N.pin = true := by rfl) (hc : X.calm = true := by rfl) (hs : ∀ x, foldedSetIterable iter X.env x = pure x := by intro _; rfl) : QS X N (.For tg iter sa [] pos) (sFor mi mg mS) := let ⟨_, p', q⟩ := hi; let ⟨_, p2, q2⟩ := hg; let ⟨_, p3, q3⟩ := ha; ⟨_, ps_for hp hc p' p2 p3 hs, rs_for q q2 q3 hpin⟩
theorem qs_asg (he : QE X N st e m) (hg : QG X N ws tg mg) (hpin : gOk ws N.pin = true := by rfl) (hs : swapsWithSole [tg] e pos.line X.env = pure false := by rfl) (hw : swappedStores [tg] e X.env = pure none := by rfl) (h1 : (assignEach [tg] X.env).map (·.2) = [assign tg X.env] := by rfl) : QS X N (.Assign [tg] e pos) (sAsg mg m) := let ⟨_, p', q⟩ := he; let ⟨_, p2, q2⟩ := hg; ⟨_, ps_asg p' p2 hs hw h1, rs_asg q q2 hpin⟩
theorem qs_set {i : Nat} {x : Str} {pos' : Pos} (he : QE X N st e m) (hN : X.N.Nodup) (hpin : gOk [i] N.pin = true := by rfl) (hi : X.N[i]? = some x := by rfl) (hx : Loc X.env.scope x := by first | exact Or.inl rfl | exact Or.inr rfl) (hs : swapsWith e (some (.Name x pos')) pos.line X.env = pure false := by rfl) (hf : X.fn x = true ∨ X.env.scope.names.lookup x = some .local := by first | exact .inl rfl | exact .inr rfl) :
    QS X N (.Assign [.Name x pos'] e pos) (sAsg (gN i) m) := let ⟨_, p', q⟩ := he; ⟨_, ps_set hN hi hx p' hs hf, rs_asg q rg_n hpin⟩
theorem qs_par {i j : Nat} {x y : Str} {px py pt pt2 : Pos} {kt k2 : Nat} (ha : QA X N st [a, b] ms) (hN : X.N.Nodup) (hij : i ≠ j := by decide) (hpin : gOk [i, j] N.pin = true := by rfl) (hi : X.N[i]? = some x := by rfl) (hj : X.N[j]? = some y := by rfl)
    (hx : X.env.scope.names.lookup x = some .local := by rfl) (hy : X.env.scope.names.lookup y = some .local := by rfl) (hc : X.calm = true := by rfl)
    (hw : swappedStores [.Tuple [.Name x px, .Name y py] kt pt] (.Tuple [a, b] k2 pt2) X.env = pure (some [x, y]) := by rfl)
    (hs : swapsWithSole [.Tuple [.Name x px, .Name y py] kt pt] (.Tuple [a, b] k2 pt2) pos.line X.env = pure false := by rfl) :
    QS X N (.Assign [.Tuple [.Name x px, .Name y py] kt pt] (.Tuple [a, b] k2 pt2) pos) (sPar i j ms) := let ⟨_, p', q⟩ := ha; ⟨_, ps_par hc hN hi hj hij hx hy p' hw hs, rs_par q hpin⟩
/-! three at once -/
def setsE : Env → List Nat → List D → Env
  | env, i :: is, d :: ds => setsE (env.set i (some d)) is ds
  | env, _, _ => env
def setsV : L2.St → List Nat → List V → L2.St
  | σ, i :: is, v :: vs => setsV (σ.set i (some v)) is vs
  | σ, _, _ => σ
theorem rd_sets {C : Ct} {Z H : Hp} : ∀ {is : List Nat} {ds : List D} {vs : List V} {Fv F : List Addr} {env : Env} {σ : L2.St}, Ok C.T Z H (Fv ++ F) → RdE C Z H env σ F → RdL C Z H ds vs Fv →
    ∃ F', F'.Nodup ∧ (∀ a ∈ F', a ∈ Fv ++ F) ∧ RdE C Z H (setsE env is ds) (setsV σ is vs) F'
  | [], ds, vs, Fv, F, env, σ, o, r, h => ⟨F, nodup_right o.nd, fun a ha => List.mem_append_right _ ha, by cases ds <;> cases vs <;> exact r⟩
  | i :: is, [], vs, Fv, F, env, σ, o, r, h => by
    rw [RdL] at h
    rw [h.1]
    exact ⟨F, nodup_right o.nd, fun a ha => List.mem_append_right _ ha, r⟩
  | i :: is, d :: ds, _, _, F, env, σ, o, r, h => by
    rw [RdL] at h
    obtain ⟨v, vs, F1, F2, rfl, rfl, h1, h2⟩ := h
    have nd := o.nd
    rw [List.append_assoc] at nd
    have o1 : Ok C.T Z H (F1 ++ F) := o.sub (List.nodup_append.mpr ⟨nodup_left nd, nodup_right (nodup_right nd), fun a ha b hb e => by
      subst e
      exact (List.nodup_append.mp nd).2.2 a ha a (List.mem_append_right _ hb) rfl⟩) fun a ha => by
        rcases List.mem_append.mp ha with z | z
        · exact List.mem_append_left _ (List.mem_append_left _ z)
        · exact List.mem_append_right _ z
    obtain ⟨F3, g1, g2, g3⟩ := rd_set (i := i) o1 r h1
    have o2 : Ok C.T Z H (F2 ++ F3) := o.sub (List.nodup_append.mpr ⟨nodup_left (nodup_right nd), g1, fun a ha b hb e => by
      subst e
      rcases List.mem_append.mp (g2 a hb) with z | z
      · exact (List.nodup_append.mp nd).2.2 a z a (List.mem_append_left _ ha) rfl
      · exact (List.nodup_append.mp (nodup_right nd)).2.2 a ha a z rfl⟩) fun a ha => by
        rcases List.mem_append.mp ha with z | z
        · exact List.mem_append_left _ (List.mem_append_right _ z)
        · rcases List.mem_append.mp (g2 a z) with y | y
          · exact List.mem_append_left _ (List.mem_append_left _ y)
          · exact List.mem_append_right _ y
    obtain ⟨F4, k1, k2, k3⟩ := rd_sets (is := is) o2 g3 h2
    refine ⟨F4, k1, fun a ha => ?_, k3⟩
    rcases List.mem_append.mp (k2 a ha) with z | z
    · exact List.mem_append_left _ (List.mem_append_right _ z)
    · rcases List.mem_append.mp (g2 a z) with y | y
      · exact List.mem_append_left _ (List.mem_append_left _ y)
      · exact List.mem_append_right _ y
def sPar3 (i j l : Nat) (m : ML) : MS := fun env => (m env).bind fun ds e => match ds with | [d1, d2, d3] => .ok .nx (((e.set i (some d1)).set j (some d2)).set l (some d3)) | _ => .no
/-! x op= e, on ints -/
def gAdd (a b : Int) : Option D := some (.int (a + b))
def gSub (a b : Int) : Option D := some (.int (a - b))
def gDiv (a b : Int) : Option D := if 0 < b ∧ b.natAbs.log2 < 9000 then some (.int (a / b)) else none
theorem qs_put {pl : Plc} {pos' : Pos} (hu : X.A.units + 64 < cLine) (he : QE X N s1 e m) (hp : QP X N o pl) (hi : QT X N s2 b n) (hst : plcSt pl s2 = true := by rfl) (hs : swapsWithSole [.Subscript o b pos'] e pos.line X.env = pure false := by rfl) (hw : swappedStores [.Subscript o b pos'] e X.env = pure none := by rfl) (h1 : (assignEach [.Subscript o b pos'] X.env).map (·.2) = [assign (.Subscript o b pos') X.env] := by rfl)
    (ha : ∀ v, assign (.Subscript o b pos') X.env v = (do
      let ov ← holding [v] (eval o X.env)
      let iv ← holding [v, ov] (eval b X.env)
      standAt pos'
      holding [v, ov, iv] (setItem ov iv v)
      release [v, ov, iv] []) := by intro _; rfl) :
    QS X N (.Assign [.Subscript o b pos'] e pos) (sPut pl m n) := by
  obtain ⟨t, p', q⟩ := he
  obtain ⟨t2, p2, q2⟩ := hi
  exact ⟨_, ps_asg p' (pg_sub hp.1 p2 (o_set hu) ha) hs hw h1, rs_put hp.2 q q2 hst⟩
theorem qs_fld {i : Nat} {cs : List String} {f : String} {x : Str} {pos' : Pos} (ag : Ag X N) (hc : ∀ c ∈ cs, FldOk N.C c f) (he : QE X N s1 e m) (hs : swapsWith e (some (.Attribute (.Name x p) (PySem.Str.ofString f) pos')) pos.line X.env = pure false := by rfl)
    (hN : X.N[i]? = some x := by rfl) (hv : Vis X.env.scope x := by first | exact Or.inl rfl | exact Or.inr (Or.inl rfl) | exact Or.inr (Or.inr rfl)) (hd : (x == ("__debug__" : Str)) = false := by decide) (hcd : (x == ("__classdict__" : Str)) = false := by decide) :
    QS X N (.Assign [.Attribute (.Name x p) (PySem.Str.ofString f) pos'] e pos) (sFldD i cs f m) := by
  obtain ⟨t, p', q⟩ := he
  have := ps_fld (pos := pos) (pos' := pos') (f := PySem.Str.ofString f) (pe_var (X := X) (pos := p) hN hv hd hcd) p' hs
  rw [ag.K] at this
  exact ⟨_, this, rs_fld hc q⟩
end
/-! ### defs -/
theorem spM_len {C : Ct} {xc : Bool} {io : List Bool} {f : Fun} {n : Nat} (h : io.length = n) : ∀ vs H Q E, spM C xc io f vs H Q E → vs.length = n := fun vs H Q E ⟨_, _, _, h1, _⟩ => h1.trans h
section
variable {P : Program} {w : World} {K : PySem.W.Frag} {mg : Str → Option Value} {base : Heap} {k : Nat} {Ns ps : List Str} {stm : Stmt} {f : Addr} {fd : FuncData} {io : List Bool} {cls : String → Option Addr} {m : MS} {n : Nat}
/-- the body of a def, against its mirror -/
def QBody (P : Program) (w : World) (K : PySem.W.Frag) (mg : Str → Option Value) (base : Heap) (cls : String → Option Addr) (Ω : List (Addr × Str)) (k : Nat) (qual : Str) (stm : Stmt) (f : Addr) (Ns : List Str) (io : List Bool) (m : MS) : Prop :=
  ∀ (cdv : Value) (A : Around) (outer : List PySem.Env) (s : Shared) (H : Hp) (E : XK), Rm k (A.deeper (envOfC qual (defScope stm) s.heap.objs.size f cdv)) →
    QSs (cxOf CX0 P w K mg base Ns qual (defScope stm) f cdv A outer s H E).nox ⟨⟨K, cls, P, w, Ω⟩, none, pinOf io 0⟩ (defBody stm) m
theorem cal_M {x : Str} (F : At K mg x stm f fd) (b : Binds K fd ps []) (S : FnScope Ns ps (defScope stm)) (hio : io.length = ps.length) (hn : Ns.length = io.length + n) (h : QBody P w K mg base cls Ω k x stm f Ns io m) :
    Cal P w K mg base CX0 (k + 1) x ps (spM ⟨K, cls, P, w, Ω⟩ false io (fnOf n io m)) :=
  cal_mk F b S (spM_len hio) (body_M hn h)
theorem mak_M {C : Addr} {x qual : Str} (M : Mk K C f) (hm : mg x = some (.ref C)) (F : L2.Fun K "__init__" qual stm f fd) (b : Binds K fd ps []) (S : FnScope Ns ps (defScope stm)) (hio : io.length = ps.length) (hn : Ns.length = io.length + n) (h : QBody P w K mg base cls Ω k qual stm f Ns io m) :
    Mak P w K mg base CX0 (k + 1) x C ps (spM ⟨K, cls, P, w, Ω⟩ false io (fnOf n io m)) :=
  mak_mk M hm F b S (spM_len hio) (body_M hn h)
/-- what stands, but the tables -/
def Zn (H : Hp) : Hp := fun a => match H a with | some (.tbl _) => none | o => o
theorem zn_at {H : Hp} {a : Addr} {o : HO} (e : H a = some o) (n : ∀ ps, o ≠ .tbl ps) : Zn H a = some o := by
  unfold Zn
  rw [e]
  cases o with
  | tbl ps => exact absurd rfl (n ps)
  | _ => rfl
theorem zn_same {H : Hp} : Same (Zn H) H := fun a o e => by
  unfold Zn at e
  split at e
  · cases e
  · exact e
theorem zn_tbl {H : Hp} (a : Addr) (ps : Array Value) : Zn H a ≠ some (.tbl ps) := fun e => by
  have h := zn_same a _ e
  unfold Zn at e
  rw [h] at e
  cases e
theorem zn_seq {K : PySem.W.Frag} {H : Hp} {a : Addr} {xs : List V} (h : SqL K H a xs) : SqL K (Zn H) a xs := by
  rcases h with h | h
  · rcases h with h | ⟨o, h⟩
    · exact .inl (.inl (zn_at h fun ps z => by cases z))
    · exact .inl (.inr ⟨o, zn_at h fun ps z => by cases z⟩)
  · exact .inr h
theorem ok_nilT {Ω : List (Addr × Str)} {H : Hp} (t : Tabs Ω H) : Ok Ω (Zn H) H [] := ⟨zn_same, (fun a ha => nomatch ha), List.nodup_nil, (fun a ha => nomatch ha), (fun a ha => nomatch ha), zn_tbl, t⟩
end
end Mi
set_option maxHeartbeats 4000000
namespace Mi
open PySem PySem.Spec PyProof.Rows L2 RZ Ov PpSet
section
variable {X : Cx} {N : Cn} {st s1 s2 s3 : Bool} {a b c e o tg : Expr} {es : List Expr} {m n l : ME} {pos apos cpos p : Pos} {ms : ML} {as : List Arg}
/-- a name whose value is kept: frozen, if it is not yet -/
def eVk (i : Nat) : ME := fun env => match env[i]? with | some (some d) => if fzn d then .ok d env else .ok (fz d) (env.set i (some (fz d))) | _ => .no
theorem re_vk {i : Nat} : RefE N true (tVar i) (eVk i) := fun env σ Z H F Q o r w => by
  unfold eVk at w
  cases he : env[i]? with
  | none => simp only [he] at w; exact w.elim
  | some y =>
  cases y with
  | none => simp only [he] at w; exact w.elim
  | some d =>
  simp only [he] at w
  by_cases q : fzn d = true
  · rw [if_pos q] at w
    refine re_k (rt_v (i := i)) env σ Z H F Q o r ?_
    unfold eK eV
    simp only [he, R.bind_ok, q, if_true]
    exact w
  · rw [if_neg q] at w
    refine re_vz (i := i) env σ Z H F Q o r ?_
    unfold eVz
    simp only [he]
    exact w
theorem qvk (i : Nat) {x : Str} (hN : X.N[i]? = some x := by rfl) (hv : Vis X.env.scope x := by first | exact Or.inl rfl | exact Or.inr (Or.inl rfl) | exact Or.inr (Or.inr rfl)) (hd : (x == ("__debug__" : Str)) = false := by decide) (hcd : (x == ("__classdict__" : Str)) = false := by decide) :
    QE X N true (.Name x pos) (eVk i) := ⟨_, pe_var hN hv hd hcd, re_vk⟩
def eFk (m : ME) : ME := fun env => (m env).bind fun d e => .ok (if fzn d then d else fz d) e
mutual
theorem fz_same : ∀ d : D, fzn d = true → fz d = d
  | .non, _ => rfl
  | .bl _, _ => rfl
  | .int _, _ => rfl
  | .str _, _ => rfl
  | .tup ds, h => by rw [fz, fz_sameL ds (by simpa [fzn] using h)]
  | .lst o ds, h => by
    simp only [fzn, Bool.and_eq_true, Bool.not_eq_true'] at h
    rw [fz, fz_sameL ds h.2, h.1]
  | .dct o ds, h => by
    simp only [fzn, Bool.and_eq_true, Bool.not_eq_true'] at h
    rw [fz, fz_sameK ds h.2, h.1]
  | .ins o c ds, h => by
    simp only [fzn, Bool.and_eq_true, Bool.not_eq_true'] at h
    rw [fz, fz_sameF ds h.2, h.1]
  | .set xs, _ => rfl
  | .scr ds, h => by rw [fz, fz_sameL ds (by simpa [fzn] using h)]
  | .exn c fs, h => by rw [fz, fz_sameF fs (by simpa [fzn] using h)]
  | .fnc f a q ds vs, h => by rw [fz, fz_sameL ds (by simpa [fzn] using h)]
  | .dcg o ds, h => by
    simp only [fzn, Bool.and_eq_true, Bool.not_eq_true'] at h
    rw [fz, fz_sameK ds h.2, h.1]
theorem fz_sameL : ∀ ds : List D, fznL ds = true → fzL ds = ds
  | [], _ => rfl
  | d :: ds, h => by
    simp only [fznL, Bool.and_eq_true] at h
    rw [fzL, fz_same d h.1, fz_sameL ds h.2]
theorem fz_sameK : ∀ ds : List (D × D), fznK ds = true → fzK ds = ds
  | [], _ => rfl
  | (k, d) :: ds, h => by
    simp only [fznK, Bool.and_eq_true] at h
    rw [fzK, fz_same d h.1, fz_sameK ds h.2]
theorem fz_sameF : ∀ ds : List (String × D), fznF ds = true → fzF ds = ds
  | [], _ => rfl
  | (k, d) :: ds, h => by
    simp only [fznF, Bool.and_eq_true] at h
    rw [fzF, fz_same d h.1, fz_sameF ds h.2]
end
theorem fk_fz : eFk m = eFz m := by
  funext env
  unfold eFk eFz
  cases m env with
  | ok d e =>
    simp only [R.bind_ok]
    by_cases q : fzn d = true
    · rw [if_pos q, fz_same d q]
    · rw [if_neg q]
  | ex => rfl
  | no => rfl
theorem QE.fk (h : QE X N st e m) : QE X N st e (eFk m) := by rw [fk_fz]; exact h.fz
/-! ### methods and classes by the class's name -/
def MetX (P : Program) (w : World) (K : PySem.W.Frag) (mg : Str → Option Value) (base : Heap) (cls : String → Option Addr) (k : Nat) (cn mn : String) (ps : List Str) (sp : Sp) : Prop := ∃ C, cls cn = some C ∧ Met P w K mg base CX0 k C (PySem.Str.ofString mn) ps sp
def MakX (P : Program) (w : World) (K : PySem.W.Frag) (mg : Str → Option Value) (base : Heap) (cls : String → Option Addr) (k : Nat) (cn : String) (ps : List Str) (sp : Sp) : Prop := ∃ C, cls cn = some C ∧ Mak P w K mg base CX0 k (PySem.Str.ofString cn) C ps sp
variable {k j i : Nat} {cn mn : String} {x : Str} {ps : List Str} {io : List Bool} {f : Fun} {xc : Bool} {pl : Sem Bool}
theorem x_new (cl : MakX X.prog X.w X.K X.mg X.base N.C.cls k cn ps (spM N.C xc io f)) (hr : Rm j X.A) (ha : QM X N st (e :: es) as) (hio : true :: ioOf as = io := by rfl) (hpx : N.px = none := by rfl) (hk : k + 1 ≤ j := by decide) (hg : Gl X (PySem.Str.ofString cn) := by rfl)
    (hdb : (PySem.Str.ofString cn == ("__debug__" : Str)) = false := by decide) (he : starEach (e :: es) X.env = (false, eval e X.env) :: starEach es X.env := by rfl) (hpl : (backTo pos (starEach es X.env)).any (·.1) = false := by rfl) :
    QE X N false (.Call (.Name (PySem.Str.ofString cn) p) (e :: es) [] pos) (eNew cn f as) := let ⟨C, hC, c⟩ := cl; q_new c hr hC ha hio hpx hk hg hdb he hpl
end
theorem isa_int_k : ∀ k : Kd, kitB k.ty "int" = some (Kd.isInt k) := fun k => by cases k <;> decide +kernel
theorem isa_bool_k : ∀ k : Kd, kitB k.ty "bool" = some (Kd.isBool k) := fun k => by cases k <;> decide +kernel
theorem isa_str_k : ∀ k : Kd, kitB k.ty "str" = some (Kd.isStr k) := fun k => by cases k <;> decide +kernel
theorem isa_tuple_k : ∀ k : Kd, kitB k.ty "tuple" = some (Kd.isTuple k) := fun k => by cases k <;> decide +kernel
theorem with_ag {X : Cx} {N : Cn} {ss : List Stmt} {m : MS} (ag : Ag X N) (h : Ag X N → QSs X N ss m) : QSs X N ss m := h ag
/-! ### arguments that do not come back -/
def subIo : List Bool → List Bool → List D → List D
  | true :: io, b :: io', d :: ds => if b then d :: subIo io io' ds else subIo io io' ds
  | false :: io, _ :: io', ds => subIo io io' ds
  | _, _, _ => []
/-- io' keeps some of io's -/
def subOk : List Bool → List Bool → Bool
  | [], [] => true
  | a :: r, b :: r' => (a || !b) && subOk r r'
  | _, _ => false
def fDrop (io io' : List Bool) (f : Fun) : Fun := fun ds => match f ds with
  | .ok d ios => .ok d (subIo io io' ios)
  | .ex x ios => .ex x (subIo io io' ios)
  | .no => .no
theorem RdL.subIo {C : Ct} {Z H : Hp} : ∀ {io io' : List Bool} {vs : List V} {ios : List D} {F : List Addr}, subOk io io' = true → RdL C Z H ios (pick io vs) F → vs.length = io.length → ∃ F', F'.Sublist F ∧ RdL C Z H (Mi.subIo io io' ios) (pick io' vs) F'
  | [], [], vs, ios, F, h, r, l => by
    cases vs with
    | nil => exact ⟨[], List.nil_sublist _, by simp [Mi.subIo, pick, RdL]⟩
    | cons => simp at l
  | [], _ :: _, vs, ios, F, h, r, l => by simp [subOk] at h
  | _ :: _, [], vs, ios, F, h, r, l => by simp [subOk] at h
  | a :: io, b :: io', [], ios, F, h, r, l => by simp at l
  | false :: io, b :: io', v :: vs, ios, F, h, r, l => by
    simp only [subOk, Bool.false_or, Bool.and_eq_true, Bool.not_eq_true'] at h
    obtain ⟨rfl, h⟩ := h
    rw [pick] at r
    obtain ⟨F', s, r'⟩ := RdL.subIo h r (by simpa using l)
    refine ⟨F', s, ?_⟩
    rw [pick]
    cases ios <;> exact r'
  | true :: io, b :: io', v :: vs, ios, F, h, r, l => by
    simp only [subOk, Bool.true_or, Bool.true_and] at h
    rw [pick] at r
    cases ios with
    | nil => rw [RdL] at r; simp at r
    | cons d ios =>
      rw [RdL] at r
      obtain ⟨v', s', F1, F2, e, rfl, r1, r2⟩ := r
      cases e
      obtain ⟨F', s, r'⟩ := RdL.subIo h r2 (by simpa using l)
      cases b with
      | true =>
        refine ⟨F1 ++ F', List.Sublist.append_left s F1, ?_⟩
        rw [pick, Mi.subIo, if_pos rfl, RdL]
        exact ⟨v, _, F1, F', rfl, rfl, r1, r'⟩
      | false =>
        refine ⟨F', s.trans (List.sublist_append_right ..), ?_⟩
        rw [pick, Mi.subIo, if_neg Bool.false_ne_true]
        exact r'
theorem subOk_len : ∀ {io io' : List Bool}, subOk io io' = true → io.length = io'.length
  | [], [], _ => rfl
  | _ :: r, _ :: r', h => by simp only [subOk, Bool.and_eq_true] at h; simp [subOk_len h.2]
  | [], _ :: _, h => by simp [subOk] at h
  | _ :: _, [], h => by simp [subOk] at h
theorem spM_drop {C : Ct} {io io' : List Bool} {f : Fun} (h : subOk io io' = true) {vs : List V} {H : Hp} {Q : VK} {E : XK} (s : spM C false io' (fDrop io io' f) vs H Q E) : spM C false io f vs H Q E := by
  obtain ⟨ds, Z, F, h1, h2, h3, h4⟩ := s
  have hl : vs.length = io.length := h1.trans (subOk_len h).symm
  refine ⟨ds, Z, F, hl, h2, h3, ?_⟩
  unfold fDrop at h4
  cases hf : f ds with
  | no => rw [hf] at h4; exact h4
  | ex x ios => rw [hf] at h4; exact absurd h4.1 Bool.false_ne_true
  | ok d ios =>
    rw [hf] at h4
    intro v Z' H' Fv Fi x rv ri
    obtain ⟨F', sl, r'⟩ := RdL.subIo h ri hl
    refine h4 v Z' H' Fv F' (x.sub (List.nodup_append.mpr ⟨nodup_left x.ok.nd, sl.nodup (nodup_right x.ok.nd), fun a ha b hb e => ?_⟩) fun a ha => ?_) rv r'
    · subst e
      exact x.ok.disj a ha (sl.mem hb)
    · rcases List.mem_append.mp ha with z | z
      · exact List.mem_append_left _ z
      · exact List.mem_append_right _ (sl.mem z)
theorem FnG.imp {P : Program} {w : World} {K : PySem.W.Frag} {mg : Str → Option Value} {base : Heap} {CX : CXT} {k : Nat} {f : Addr} {fd : FuncData} {ps : List Str} {sp sp' : Sp} (F : FnG P w K mg base CX k f fd ps sp) (h : ∀ vs H Q E, sp' vs H Q E → sp vs H Q E) : FnG P w K mg base CX k f fd ps sp' :=
  ⟨fun vs H Q E s => F.len vs H Q E (h _ _ _ _ s), fun A o s H a us vs Q E hr e0 hb rv hs => F.run A o s H a us vs Q E hr e0 hb rv (h _ _ _ _ hs)⟩
theorem Cal.drop {P : Program} {w : World} {K : PySem.W.Frag} {mg : Str → Option Value} {base : Heap} {k : Nat} {x : Str} {ps : List Str} {C : Ct} {io : List Bool} {f : Fun} (io' : List Bool) (c : Cal P w K mg base CX0 k x ps (spM C false io f)) (h : subOk io io' = true := by rfl) : Cal P w K mg base CX0 k x ps (spM C false io' (fDrop io io' f)) := by
  obtain ⟨a, fd, F, r⟩ := c.ex
  exact ⟨a, fd, FnG.imp F fun vs H Q E s => spM_drop h s, r⟩
end Mi
set_option maxHeartbeats 4000000
namespace Mi
open PySem PySem.Spec PyProof.Rows L2 RZ Ov PpSet
/-! ### == : texts and numbers at once, other data by their shape -/
def fEq2 : D → D → Option D
  | .str x, .str y => some (.bl (decide (x = y)))
  | .int x, .int y => some (.bl (decide (x = y)))
  | d, e => fEq d e
def fNe2 : D → D → Option D
  | .str x, .str y => some (.bl (!decide (x = y)))
  | .int x, .int y => some (.bl (!decide (x = y)))
  | d, e => fNe d e
def rEqU (K : PySem.W.Frag) : R2 := fun x y H Q => rEqD K x y H Q ∨ rEq x y H Q
def rNeU (K : PySem.W.Frag) : R2 := fun x y H Q => rNeD K x y H Q ∨ rNe x y H Q
theorem o_eqU {X : Cx} (K : PySem.W.Frag) (hu : X.A.units + 64 < cLine) (h : X.K = K := by rfl) : OpR X (compareOp .Eq) (rEqU K) := OpR.or (k_eqD K hu h) op_eq
theorem o_neU {X : Cx} (K : PySem.W.Frag) (hu : X.A.units + 64 < cLine) (h : X.K = K := by rfl) : OpR X (compareOp .NotEq) (rNeU K) := OpR.or (k_neD K hu h) op_ne
theorem f_eq2 {C : Ct} : Fn2 C (rEqU C.K) fEq2 := by
  intro d v Fd d' v' Fd' Z H F Q e o rd rd' hf p
  unfold fEq2 at hf
  split at hf
  · cases hf
    refine .inr ⟨by rw [rd.strI, rd'.strI]; rfl, ?_⟩
    rw [rd.strI, rd'.strI]
    have := post_val (Q := Q) o p rd_bl
    simpa using this
  · cases hf
    refine .inr ⟨by rw [rd.intI, rd'.intI]; rfl, ?_⟩
    rw [rd.intI, rd'.intI]
    have := post_val (Q := Q) o p rd_bl
    simpa using this
  · exact .inl (f_eq d v Fd d' v' Fd' Z H F Q e o rd rd' hf p)
theorem f_ne2 {C : Ct} : Fn2 C (rNeU C.K) fNe2 := by
  intro d v Fd d' v' Fd' Z H F Q e o rd rd' hf p
  unfold fNe2 at hf
  split at hf
  · cases hf
    refine .inr ⟨by rw [rd.strI, rd'.strI]; rfl, ?_⟩
    rw [rd.strI, rd'.strI]
    have := post_val (Q := Q) o p rd_bl
    simpa using this
  · cases hf
    refine .inr ⟨by rw [rd.intI, rd'.intI]; rfl, ?_⟩
    rw [rd.intI, rd'.intI]
    have := post_val (Q := Q) o p rd_bl
    simpa using this
  · exact .inl (f_ne d v Fd d' v' Fd' Z H F Q e o rd rd' hf p)
end Mi
set_option maxHeartbeats 4000000
namespace Mi
open PySem PySem.Spec PyProof.Rows L2 RZ Ov PpSet
noncomputable def b_l_take : MS :=
  (sSeq (sIf (bB (e2 fGt (e2 fIx (eV 0) (eC (.int 0))) (eC (.int 0)))) (sSeq (sAsg (gN 2) (e2 fMod (e2 fIx (eV 0) (eC (.int 0))) (eV 1)))
  (sSeq (sPut (0, none) (eFk (e2 fDiv (e2 fIx (eV 0) (eC (.int 0))) (eV 1))) (eC (.int 0)))
  (sRet (eMv 2)))) sPass)
  (sSeq (sPut (0, none) (eFk (e2 fAdd (e2 fIx (eV 0) (eC (.int 2))) (eC (.int 1)))) (eC (.int 2)))
  (sSeq (sAsg (gN 3) (e2 fMod (e2 fMul (e2 fAdd (e2 fAdd (e2 fIx (eV 0) (eC (.int 1))) (e2 fMul (e2 fMul (eC (.int 65537)) (e2 fIx (eV 0) (eC (.int 2)))) (e2 fIx (eV 0) (eC (.int 2))))) (eC (.int 11))) (eC (.int 48271))) (eC (.int 2305843009213693921))))
  (sSeq (sAsg (gN 3) (e2 fMod (e2 fMul (eV 3) (e2 fAdd (e2 fMod (eV 3) (eC (.int 1000003))) (e2 fMul (eC (.int 99991)) (e2 fIx (eV 0) (eC (.int 2)))))) (eC (.int 2305843009213693907))))
  (sRet (e2 fMod (e2 fAdd (e2 fDiv (eV 3) (eC (.int 97))) (e2 fDiv (eV 3) (eC (.int 1000033)))) (eV 1)))))))
noncomputable def m_l_take : Fun := fnOf 2 [true, false] b_l_take
noncomputable def b_is_integer : MS :=
  (sRet (eAnd (e1 (fIsa Kd.isInt) (eV 0)) (eAnd (eNot (e1 (fIsa Kd.isBool) (eV 0))) (eChain fLe fLe (eV 1) (eV 0) (eV 2)))))
noncomputable def m_is_integer : Fun := fnOf 0 [false, false, false] b_is_integer
noncomputable def ce_is_ascending_1 : ME :=
  (e2 fLt (eV 1) (eV 2))
noncomputable def cp_is_ascending_1 : ME :=
  (eLc (iOf zipD (lCons (eVk 0) (lCons (eFk (eSl (eV 0) (oS (eC (.int 1))) oN)) lNil))) (gT (gsCons (gN 1) (gsCons (gN 2) gsNil))) bYes ce_is_ascending_1 [1, 2])
noncomputable def b_is_ascending : MS :=
  (sRet (eL fAll (lCons cp_is_ascending_1 lNil)))
noncomputable def m_is_ascending : Fun := fnOf 2 [false] b_is_ascending
noncomputable def ce_is_name_1 : ME :=
  (e2 fIn (eV 1) (eC (.str (PySem.Str.ofString "abcdefghijklmnopqrstuvwxyz"))))
noncomputable def cp_is_name_1 : ME :=
  (eLc (iStrD (eV 0)) (gN 1) bYes ce_is_name_1 [1])
noncomputable def b_is_name : MS :=
  (sRet (eAnd (e1 (fIsa Kd.isStr) (eV 0)) (eAnd (eChain fLe fLe (eC (.int 1)) (eL fLen (lCons (eV 0) lNil)) (eC (.int 8))) (eL fAll (lCons cp_is_name_1 lNil)))))
noncomputable def m_is_name : Fun := fnOf 1 [false] b_is_name
noncomputable def b_l_box : MS :=
  (sSeq (sAsg (gN 2) (eIf (bB (e2 fLt (eV 1) (eL fLen (lCons (eV 0) lNil)))) (eK (e2 fIx (eV 0) (eV 1))) (eC (.int 0))))
  (sSeq (sAsg (gN 3) (e2 fMul (e2 fMod (eL fAbs (lCons (eV 2) lNil)) (e2 fMul (e2 fMul (e2 fMul (e2 fPow (eC (.int 10)) (eC (.int 60))) (e2 fPow (eC (.int 10)) (eC (.int 60)))) (e2 fPow (eC (.int 10)) (eC (.int 60)))) (e2 fPow (eC (.int 10)) (eC (.int 60))))) (eL fInt (lCons (e2 fGe (eL fAbs (lCons (eV 2) lNil)) (e2 fPow (eC (.int 10)) (eC (.int 18)))) lNil))))
  (sRet (eLst (lCons (eVk 3) (lCons (e2 fMod (e2 fMul (e2 fAdd (e2 fAdd (e2 fMod (eV 2) (eC (.int 2305843009213693951))) (e2 fMul (e2 fMul (eC (.int 7919)) (eV 1)) (eV 1))) (eC (.int 43))) (eC (.int 48271))) (eC (.int 2305843009213693921))) (lCons (eC (.int 0)) lNil)))))))
noncomputable def m_l_box : Fun := fnOf 2 [false, false] b_l_box
noncomputable def b_l_of : MS :=
  (sRet (eK (e2 fIx (eVk 1) (eCall m_l_take [.io 0, .e (eFk (eL fLen (lCons (eV 1) lNil)))]))))
noncomputable def m_l_of : Fun := fnOf 0 [true, false] b_l_of
noncomputable def b_is_instruction : MS :=
  (sSeq (sIf (bOr (bNot (bB (e1 (fIsa Kd.isTuple) (eV 0)))) (bB (e2 fNe2 (eL fLen (lCons (eV 0) lNil)) (eC (.int 4))))) (sRet (eC (.bl false))) sPass)
  (sSeq (sAsg (gT (gsCons (gN 2) (gsCons (gN 3) (gsCons (gN 4) (gsCons (gN 5) gsNil))))) (eVk 0))
  (sSeq (sIf (bOr (bNot (bB (eCall m_is_integer [.e (eVk 2), .e (eC (.int 0)), .e (eFk (e2 fSub (eV 1) (eC (.int 1))))]))) (bNot (bB (eCall m_is_name [.e (eVk 3)])))) (sRet (eC (.bl false))) sPass)
  (sRet (eAnd (eCall m_is_integer [.e (eVk 4), .e (eC (.int 1)), .e (eC (.int 12))]) (e1 (fIsa Kd.isBool) (eV 5)))))))
noncomputable def m_is_instruction : Fun := fnOf 4 [false, false] b_is_instruction
noncomputable def lb_l_table_1 : MS :=
  (sSeq (sAsg (gN 10) (eK (e2 fIx (eC (.str (PySem.Str.ofString "abcdefghijklmnopqrstuvwxyz"))) (e2 fMod (e2 fAdd (eV 7) (e2 fMul (eC (.int 5)) (eV 8))) (eC (.int 26))))))
  (sSeq (sAsg (gN 11) (e2 fAdd (e2 fMul (eVk 10) (e2 fAdd (eC (.int 1)) (eCall m_l_take [.io 0, .e (eC (.int 3))]))) (e2 fMul (eIf (bB (e2 fEq2 (eV 10) (eC (.str (PySem.Str.ofString "z"))))) (eC (.str (PySem.Str.ofString "y"))) (eC (.str (PySem.Str.ofString "z")))) (e2 fDiv (eV 8) (eC (.int 26))))))
  (sSeq (sAsg (gN 12) (eCall m_l_of [.io 0, .e (eFk (eLst (lCons (eC (.int 1)) (lCons (eC (.int 2)) (lCons (eC (.int 3)) (lCons (e2 fAdd (eC (.int 1)) (eCall m_l_take [.io 0, .e (eVk 2)])) lNil))))))]))
  (sExpr (mList (6, none) (lCons (eTup (lCons (eVk 9) (lCons (eVk 11) (lCons (eL fMin2 (lCons (eV 12) (lCons (eV 2) lNil))) (lCons (eOr (e2 fEq2 (eV 8) (eC (.int 0))) (e2 fEq2 (eCall m_l_take [.io 0, .e (eC (.int 2))]) (eC (.int 0)))) lNil))))) lNil) fAppend)))))
noncomputable def lp_l_table_1 : MS :=
  (sFor (iOf enumD (lCons (eVk 5) lNil)) (gT (gsCons (gN 8) (gsCons (gN 9) gsNil))) lb_l_table_1)
noncomputable def lb_l_table_2 : MS :=
  (sExpr (mList (5, none) (lCons (eCall m_l_take [.io 0, .e (eFk (eL fLen (lCons (eV 5) lNil)))]) lNil) fPopAt))
noncomputable def lp_l_table_2 : MS :=
  (sWhile (bB (e2 fGt (eL fLen (lCons (eV 5) lNil)) (eV 4))) lb_l_table_2)
noncomputable def b_l_table : MS :=
  (sSeq (sAsg (gN 3) (e2 fAdd (eC (.int 2)) (eCall m_l_take [.io 0, .e (eFk (e2 fSub (eV 1) (eC (.int 1))))])))
  (sSeq (sPar 4 5 (lCons (e2 fAdd (eC (.int 1)) (eCall m_l_take [.io 0, .e (eFk (eL fMin2 (lCons (eC (.int 6)) (lCons (eV 3) lNil))))])) (lCons (eLRg (eRg1 (eV 3))) lNil)))
  (sSeq (sIf (bAnd (bB (e2 fGt (eV 3) (eC (.int 12)))) (bB (e2 fEq2 (e2 fMod (eV 3) (eC (.int 7))) (eC (.int 3))))) (sAsg (gN 4) (e2 fAdd (eC (.int 7)) (e2 fDiv (eV 3) (eC (.int 4))))) sPass)
  (sSeq lp_l_table_2
  (sSeq (sPar 6 7 (lCons (eLst lNil) (lCons (eCall m_l_take [.io 0, .e (eC (.int 26))]) lNil)))
  (sSeq lp_l_table_1
  (sRet (eTup (lCons (eVk 3) (lCons (eL fTuple (lCons (eV 6) lNil)) lNil))))))))))
noncomputable def m_l_table : Fun := fnOf 10 [true, false, false] b_l_table
noncomputable def ce_are_instructions_1 : ME :=
  (eK (e2 fIx (eV 3) (eC (.int 0))))
noncomputable def cp_are_instructions_1 : ME :=
  (eLc (iSeq (eVk 0)) (gN 3) bYes ce_are_instructions_1 [3])
noncomputable def cp_are_instructions_2 : ME :=
  (eSc (iSeq (eVk 0)) (gN 3) bYes (eK (e2 fIx (eV 3) (eC (.int 1)))) [3])
noncomputable def ce_are_instructions_2 : ME :=
  (eCall m_is_instruction [.e (eVk 3), .e (eVk 1)])
noncomputable def cp_are_instructions_3 : ME :=
  (eLc (iSeq (eVk 0)) (gN 3) bYes ce_are_instructions_2 [3])
noncomputable def b_are_instructions : MS :=
  (sSeq (sIf (bOr (bNot (bB (e1 (fIsa Kd.isTuple) (eV 0)))) (bB (e2 fEq2 (eV 0) (eTup lNil)))) (sRet (eC (.bl false))) sPass)
  (sSeq (sIf (bNot (bB (eL fAll (lCons cp_are_instructions_3 lNil)))) (sRet (eC (.bl false))) sPass)
  (sSeq (sAsg (gN 2) cp_are_instructions_2)
  (sRet (eAnd (eCall m_is_ascending [.e (eFk cp_are_instructions_1)]) (e2 fEq2 (eL fLen (lCons (eV 2) lNil)) (eL fLen (lCons (eV 0) lNil))))))))
noncomputable def m_are_instructions : Fun := fnOf 2 [false, false] b_are_instructions
noncomputable def ce_l_bytes_1 : ME :=
  (eIf (bB (e2 fGt (eCall m_l_take [.io 0, .e (eC (.int 4))]) (eC (.int 0)))) (eCall m_l_of [.io 0, .e (eVk 3)]) (eCall m_l_take [.io 0, .e (eK (e2 fIx (eV 1) (eC (.int 0))))]))
noncomputable def cp_l_bytes_1 : ME :=
  (eLc (iOf rng1 (lCons (eV 2) lNil)) (gN 5) bYes ce_l_bytes_1 [5])
noncomputable def ce_l_bytes_2 : ME :=
  (eK (e2 fIx (eV 4) (eC (.int 0))))
noncomputable def cp_l_bytes_2 : ME :=
  (eLc (iSeq (eK (e2 fIx (eV 1) (eC (.int 1))))) (gN 4) bYes ce_l_bytes_2 [4])
noncomputable def b_l_bytes : MS :=
  (sSeq (sAsg (gN 3) cp_l_bytes_2)
  (sRet (eL fTuple (lCons cp_l_bytes_1 lNil))))
noncomputable def m_l_bytes : Fun := fnOf 3 [true, false, false] b_l_bytes
noncomputable def cp_InstructionSet_init_1 : ME :=
  (eDc (iSeq (eVk 2)) (gN 3) bYes (eK (e2 fIx (eV 3) (eC (.int 0)))) (eVk 3) [3])
noncomputable def b_InstructionSet_init : MS :=
  (sSeq (sIf (bNot (bB (eCall m_is_integer [.e (eVk 1), .e (eC (.int 2)), .e (eC (.int 256))]))) sNo sPass)
  (sSeq (sIf (bNot (bB (eCall m_are_instructions [.e (eVk 2), .e (eVk 1)]))) sNo sPass)
  (sSeq (sFldD 0 ["InstructionSet"] "byte_count" (eVk 1))
  (sSeq (sFldD 0 ["InstructionSet"] "instructions" (eVk 2))
  (sFldD 0 ["InstructionSet"] "by_opcode" cp_InstructionSet_init_1)))))
noncomputable def m_InstructionSet_init : Fun := fnOf 1 [true, false, false] b_InstructionSet_init
noncomputable def b_l_machine : MS :=
  (sRet (eNew "InstructionSet" m_InstructionSet_init [.e (eK (e2 fIx (eV 0) (eC (.int 0)))), .e (eK (e2 fIx (eV 0) (eC (.int 1))))]))
noncomputable def m_l_machine : Fun := fnOf 0 [false] b_l_machine
end Mi
set_option maxHeartbeats 4000000
namespace L2
open PySem PySem.Spec PyProof.Rows
end L2
set_option maxHeartbeats 4000000
namespace Mi
open PySem PySem.Spec PyProof.Rows L2 RZ Ov PpSet
section
variable {X : Cx} {N : Cn} {st : Bool}
/-! ### names = values, through a tuple that nobody keeps -/
def QNs (X : Cx) (is : List Nat) (es : List Expr) : Prop := ∃ t : TGs, PGs X es t ∧ ∀ vs σ H Q, vs.length = is.length → Q (setsV σ is vs) H → t vs σ H Q
theorem qns_nil : QNs X [] [] := ⟨gNil, pgs_nil, fun vs σ H Q hl q => by
  cases vs with
  | nil => exact ⟨rfl, q⟩
  | cons => cases hl⟩
theorem qns_cons {is : List Nat} {es : List Expr} {pos : Pos} (i : Nat) {x : Str} (hN : X.N.Nodup) (h : QNs X is es) (hi : X.N[i]? = some x := by rfl) (hx : Loc X.env.scope x := by first | exact Or.inl rfl | exact Or.inr rfl)
    (hf : X.fn x = true ∨ X.env.scope.names.lookup x = some .local := by first | exact .inl rfl | exact .inr rfl) (ha : (assignEach (.Name x pos :: es) X.env).map (·.2) = assign (.Name x pos) X.env :: (assignEach es X.env).map (·.2) := by rfl) : QNs X (i :: is) (.Name x pos :: es) := by
  obtain ⟨t, p, q⟩ := h
  refine ⟨_, pgs_cons (pg_name hN hi hx hf) p ha, fun vs σ H Q hl k => ?_⟩
  cases vs with
  | nil => cases hl
  | cons v vs => exact ⟨v, vs, rfl, q vs _ H Q (by simpa using hl) k⟩
def sParN (is : List Nat) (m : ML) : MS := fun env => (m env).bind fun ds e => if ds.length = is.length ∧ ds.length ≤ sizeLine then .ok .nx (setsE e is ds) else .no
theorem setsV_len : ∀ {is : List Nat} {vs : List V} {σ : L2.St}, (setsV σ is vs).length = σ.length
  | [], vs, σ => by cases vs <;> rfl
  | i :: is, [], σ => rfl
  | i :: is, v :: vs, σ => by rw [setsV, setsV_len, List.length_set]
theorem setsV_get {q : Nat} : ∀ {is : List Nat} {vs : List V} {σ : L2.St}, q ∉ is → (setsV σ is vs)[q]? = σ[q]?
  | [], vs, σ, _ => by cases vs <;> rfl
  | i :: is, [], σ, _ => rfl
  | i :: is, v :: vs, σ, h => by
    rw [List.mem_cons, not_or] at h
    rw [setsV, setsV_get h.2, List.getElem?_set_ne (Ne.symm h.1)]
theorem rs_parN {is : List Nat} {t : TA} {gs : TGs} {n : Nat} {m : ML} (h : RefA N st t m) (hg : ∀ vs σ H Q, vs.length = is.length → Q (setsV σ is vs) H → gs vs σ H Q) (hn : n = is.length) (hp : gOk is N.pin = true) : RefS N (tAsg (tTup t) (gTup N.C.K n gs)) (sParN is m) := fun env σ Z H F D0 o r w => by
  refine h env σ Z H F _ o r (w.bind.mono (Pin.refl _ _) (Ext.refl o) ?_)
  intro ds env1 k vs Z1 H1 Fv F1 x rv r1 _
  by_cases q : ds.length = is.length ∧ ds.length ≤ sizeLine
  · rw [if_pos q] at k
    have hl := rv.length
    refine ⟨by omega, fun p hpn => ?_⟩
    have y := Ext.junk (o := .tup vs) x.ok hpn
    have rv2 : RdL N.C Z1 (upd H1 p (.tup vs)) ds vs Fv := rv.same (Same.refl _) (same_new hpn)
    have r2 : RdE N.C Z1 (upd H1 p (.tup vs)) env1 σ F1 := r1.same (Same.refl _) (same_new hpn)
    refine ⟨p, vs, rfl, sqT_of upd_same, by omega, hg vs σ _ _ (by omega) ?_⟩
    obtain ⟨F2, h1, h2, h3⟩ := rd_sets (is := is) y.ok r2 rv2
    refine k _ Z1 _ F2 ⟨setsV_len, fun q hq => setsV_get fun z => ?_⟩ ((x.trans y).sub h1 h2) h3
    have := List.all_eq_true.mp hp q hq
    simp [z] at this
  · rw [if_neg q] at k
    exact k.elim
theorem qs_parN {is : List Nat} {as es : List Expr} {ms : ML} {pos pt pt2 : Pos} {kt k2 : Nat} (ag : Ag X N) (ha : QA X N st as ms) (hg : QNs X is es) (hpin : gOk is N.pin = true := by rfl) (hc : X.calm = true := by rfl)
    (hn : (assignEach es X.env).length = is.length := by rfl) (hst : (assignEach es X.env).findIdx? (·.1) = none := by rfl)
    (hs : swapsWithSole [.Tuple es kt pt] (.Tuple as k2 pt2) pos.line X.env = pure false := by rfl) (hw : swappedStores [.Tuple es kt pt] (.Tuple as k2 pt2) X.env = pure none := by rfl)
    (h1 : (assignEach [.Tuple es kt pt] X.env).map (·.2) = [assign (.Tuple es kt pt) X.env] := by rfl) : QS X N (.Assign [.Tuple es kt pt] (.Tuple as k2 pt2) pos) (sParN is ms) := by
  obtain ⟨_, p', q⟩ := ha
  obtain ⟨gs, p2, q2⟩ := hg
  have pg := pg_tup (X := X) (pos := pt) (k := kt) hc p2 hn hst
  rw [ag.K] at pg
  exact ⟨_, ps_asg (pe_tup p') pg hs hw h1, rs_parN q q2 rfl hpin⟩
/-! ### a, b, c = a list -/
def gUL (gs : MGs) : MG := fun d env => match d with | .lst _ ds => if fznL ds then gs ds env else none | _ => none
end
end Mi
set_option maxHeartbeats 4000000
set_option maxHeartbeats 4000000
namespace Mi
open PySem PySem.Spec PyProof.Rows L2 RZ Ov PpSet
/-! ### defaults -/
/-- f(e, ..), the last arguments ds -/
def fPad (ds : List D) (f : Fun) : Fun := fun as => f (as ++ ds)
theorem rd_flat {C : Ct} {Z H : Hp} {d : D} (h : flatD d = true) : RdV C Z H d (vF d) [] := by
  cases d with
  | non => rw [RdV]; exact ⟨rfl, rfl⟩
  | bl b => rw [RdV]; exact ⟨rfl, rfl⟩
  | int b => rw [RdV]; exact ⟨rfl, rfl⟩
  | str b => rw [RdV]; exact ⟨rfl, rfl⟩
  | _ => cases h
theorem rdL_flat {C : Ct} {Z H : Hp} : ∀ {ds : List D}, ds.all flatD = true → RdL C Z H ds (ds.map vF) []
  | [], _ => RdL.nil0
  | d :: ds, h => by
    rw [List.all_cons, Bool.and_eq_true] at h
    exact RdL.cons0 (rd_flat h.1) (rdL_flat h.2)
theorem pick_pad {α : Type} : ∀ {io : List Bool} {vs : List α} {n : Nat} {us : List α}, vs.length = io.length → pick (io ++ List.replicate n false) (vs ++ us) = pick io vs
  | [], [], n, us, _ => by
    have : ∀ (n : Nat) (us : List α), pick (List.replicate n false) us = [] := by
      intro n
      induction n with
      | zero => intro us; cases us <;> rfl
      | succ n ih =>
        intro us
        cases us with
        | nil => rfl
        | cons a us => rw [List.replicate_succ, pick]; exact ih us
    rw [List.nil_append, List.nil_append, this]
    rfl
  | [], v :: vs, n, us, h => by cases h
  | b :: io, [], n, us, h => by cases h
  | true :: io, v :: vs, n, us, h => by
    rw [List.cons_append, List.cons_append, pick, pick, pick_pad (by simpa using h)]
  | false :: io, v :: vs, n, us, h => by
    rw [List.cons_append, List.cons_append, pick, pick, pick_pad (by simpa using h)]
theorem spM_pad {C : Ct} {xc : Bool} {io : List Bool} {f : Fun} {vs : List V} {H : Hp} {Q : VK} {E : XK} {dd : List D} (hd : dd.all flatD = true) (h : spM C xc io (fPad dd f) vs H Q E) : spM C xc (io ++ List.replicate dd.length false) f (vs ++ dd.map vF) H Q E := by
  obtain ⟨ds, Z, F, hl, rl, ok, m⟩ := h
  refine ⟨ds ++ dd, Z, F, by simp [hl], rl.appG (rdL_flat hd), ok, ?_⟩
  rw [pick_pad hl]
  exact m
section
variable {X : Cx} {N : Cn} {st : Bool}
structure CalD (P : Program) (w : World) (K : PySem.W.Frag) (mg : Str → Option Value) (base : Heap) (CX : CXT) (k : Nat) (x : Str) (ps : List Str) (dvs : List V) (sp : Sp) : Prop where
  ex : ∃ (f : Addr) (fd : FuncData), FnG P w K mg base CX k f fd ps sp ∧ mg x = some (.ref f) ∧ PySem.W.keepIn K (.ref f) = true ∧ ∃ ds, Vals dvs ds ∧ Binds K fd ps ds
end
end Mi
set_option maxHeartbeats 4000000
set_option maxHeartbeats 4000000
namespace Mi
open PySem PySem.Spec PyProof.Rows L2 RZ Ov PpSet
/-! ### dict(pairs) -/
/-! ### keywords -/
def gK {α : Type} (z : α) (pi : List Nat) (n : Nat) : List α → List α → List α
  | [], ws => if ws.length = n then pi.map (fun i => ws.getD i z) else []
  | _ :: _, _ => []
theorem gK_nil {α : Type} {z : α} {pi : List Nat} {n : Nat} {ws : List α} : gK z pi n [] ws = if ws.length = n then pi.map (fun i => ws.getD i z) else [] := rfl
theorem gK_len {α : Type} {z : α} {pi : List Nat} {n m : Nat} {us ws : List α} (h : (gK z pi n us ws).length = m) (hm : 0 < m) : us = [] ∧ ws.length = n := by
  cases us with
  | nil =>
    by_cases q : ws.length = n
    · exact ⟨rfl, q⟩
    · rw [gK_nil, if_neg q] at h
      simp only [List.length_nil] at h
      omega
  | cons a b =>
    unfold gK at h
    simp only [List.length_nil] at h
    omega
theorem vals_get {i : Nat} : ∀ {zs : List V} {ws : List Value}, Vals zs ws → RelV (zs.getD i .non) (ws.getD i .none)
  | _, _, .nil => by cases i <;> exact rfl
  | _, _, .cons h t => by
    cases i with
    | zero => exact h
    | succ i => exact vals_get (i := i) t
theorem vals_map {zs : List V} {ws : List Value} (h : Vals zs ws) : ∀ pi : List Nat, Vals (pi.map fun i => zs.getD i .non) (pi.map fun i => ws.getD i .none)
  | [] => .nil
  | i :: pi => .cons (vals_get h) (vals_map h pi)
theorem vals_len : ∀ {zs : List V} {ws : List Value}, Vals zs ws → zs.length = ws.length
  | _, _, .nil => rfl
  | _, _, .cons _ t => by rw [List.length_cons, List.length_cons, vals_len t]
theorem gK_rel {pi : List Nat} {n : Nat} {vs : List V} {us : List Value} {zs : List V} {ws : List Value} (h : Vals vs us) (h2 : Vals zs ws) : Vals (gK .non pi n vs zs) (gK .none pi n us ws) := by
  cases h with
  | nil =>
    rw [gK_nil, gK_nil, vals_len h2]
    by_cases q : ws.length = n
    · rw [if_pos q, if_pos q]
      exact vals_map h2 pi
    · rw [if_neg q, if_neg q]
      exact .nil
  | cons _ _ => exact .nil
/-- f(k = e, ..): the arguments in the order of pi -/
def fKw (pi : List Nat) (n : Nat) (f : Fun) : Fun := fun ds => if fznL ds && decide (ds.length = n) then f (pi.map fun i => ds.getD i .non) else .no
theorem rdL_get {C : Ct} {Z H : Hp} {i : Nat} : ∀ {ds : List D} {vs : List V}, RdL C Z H ds vs [] → RdV C Z H (ds.getD i .non) (vs.getD i .non) []
  | [], vs, h => by
    rw [RdL] at h
    rw [h.1]
    simp [RdV]
  | d :: ds, vs, h => by
    rw [RdL] at h
    obtain ⟨v, s, F1, F2, rfl, e, h1, h2⟩ := h
    obtain ⟨rfl, rfl⟩ := List.append_eq_nil_iff.mp e.symm
    cases i with
    | zero => exact h1
    | succ i => exact rdL_get (i := i) h2
theorem rdL_map {C : Ct} {Z H : Hp} {ds : List D} {vs : List V} (h : RdL C Z H ds vs []) : ∀ pi : List Nat, RdL C Z H (pi.map fun i => ds.getD i .non) (pi.map fun i => vs.getD i .non) []
  | [] => RdL.nil0
  | i :: pi => RdL.cons0 (rdL_get h) (rdL_map h pi)
theorem pick_no {α : Type} : ∀ {n : Nat} {vs : List α}, pick (List.replicate n false) vs = []
  | 0, vs => by cases vs <;> rfl
  | n + 1, [] => rfl
  | n + 1, v :: vs => by rw [List.replicate_succ, pick]; exact pick_no
theorem spM_kw {C : Ct} {xc : Bool} {f : Fun} {vs : List V} {H : Hp} {Q : VK} {E : XK} {pi : List Nat} {n : Nat} (hp : pi.length = n) (h : spM C xc (List.replicate n false) (fKw pi n f) vs H Q E) : spM C xc (List.replicate n false) f (gK .non pi n [] vs) H Q E := by
  obtain ⟨ds, Z, F, hl, rl, ok, m⟩ := h
  unfold fKw at m
  by_cases hz : (fznL ds && decide (ds.length = n)) = true
  · rw [if_pos hz] at m
    rw [Bool.and_eq_true, decide_eq_true_eq] at hz
    have := RdL.fznL ds vs F hz.1 rl
    subst this
    have hv : vs.length = n := by rw [hl, List.length_replicate]
    have e : gK V.non pi n [] vs = pi.map fun i => vs.getD i .non := by rw [gK_nil, if_pos hv]
    rw [e]
    refine ⟨_, Z, [], by rw [List.length_map, hp, List.length_replicate], rdL_map rl pi, ok, ?_⟩
    rw [pick_no] at m ⊢
    exact m
  · rw [if_neg hz] at m
    exact m.elim
section
variable {X : Cx} {N : Cn} {st : Bool}
def QK (X : Cx) (N : Cn) (st : Bool) (kws : List Keyword) (as : List Arg) : Prop := ∃ t, PK X kws t ∧ RefM N st t as
theorem qk_nil : QK X N true [] [] := ⟨_, pk_nil, rm_nil⟩
theorem qk_e {s1 s2 : Bool} {e : Expr} {m : ME} {kws : List Keyword} {as : List Arg} {nm : Option Str} {kp : Pos} (ha : QE X N s1 e m) (hs : QK X N s2 kws as) : QK X N (s1 && s2) (⟨nm, e, kp⟩ :: kws) (.e m :: as) := let ⟨_, p, q⟩ := ha; let ⟨_, p', q'⟩ := hs; ⟨_, pk_cons p p', rm_e q q'⟩
theorem re_callK {xc : Bool} {f : Fun} {as : List Arg} {t : TA} {E : XK} {io : List Bool} {pi : List Nat} {n : Nat} (h : RefM N st t as) (hp : pi.length = n) (hio : ioOf as = io) (hn : io = List.replicate n false) (hx : ∀ σ, WE' N xc σ E) : RefE N false (tCallK (spM N.C xc io f) (gK .non pi n) E tNil t) (eCall (fKw pi n f) as) := fun env σ Z H F Q o r w => by
  subst hio
  show t σ H fun zs H2 => spM N.C xc (ioOf as) f (gK .non pi n [] zs) H2 Q E
  refine h env σ Z H F _ o r (w.bind.mono (Pin.refl _ _) (Ext.refl o) ?_)
  intro ms env1 k vs Z1 H1 Fv F1 x rm r1 _
  have := call_core (hx σ) x rm r1 k
  rw [hn] at this ⊢
  exact spM_kw hp this
theorem q_callK {k j : Nat} {x : Str} {ps ks : List Str} {io : List Bool} {f : Fun} {xc : Bool} {p pos : Pos} {kws : List Keyword} {as : List Arg} {pi : List Nat} {n : Nat} (cl : CalK X.prog X.w X.K X.mg X.base CX0 k x ps ks (gK .none pi n) (gK .non pi n) (spM N.C xc io f)) (hr : Rm j X.A) (ha : QK X N st kws as) (hp : pi.length = n := by rfl) (hio : ioOf as = io := by rfl) (hn : io = List.replicate n false := by rfl) (hpx : N.px = none := by rfl) (hk : k ≤ j := by decide) (hg : Gl X x := by rfl)
    (hall : (backToKw pos (keywordEach kws X.env)).all (·.1.isSome) = true := by rfl)
    (hks : (backToKw pos (keywordEach kws X.env)).filterMap (·.1) = ks := by rfl) (hdb : (x == ("__debug__" : Str)) = false := by decide)
    (hpl : ((backTo pos (starEach [] X.env)).any (·.1) || (backToKw pos (keywordEach kws X.env)).any (·.1.isNone)) = false := by rfl) :
    QE X N false (.Call (.Name x p) [] kws pos) (eCall (fKw pi n f) as) := by
  obtain ⟨t, p', q⟩ := ha
  exact ⟨_, pck cl hr p' hk hg hall hks hdb hpl, re_callK q hp hio hn (we_none hpx)⟩
end
end Mi
set_option maxHeartbeats 4000000
set_option maxHeartbeats 4000000
namespace Mi
open PySem PySem.Spec PyProof.Rows L2 RZ Ov PpSet
/-! ### set(xs) of ints -/
/-- the unlike members, in the order in which they are met -/
def uniq : List Int → List Int → List Int
  | acc, [] => acc
  | acc, n :: r => if n ∈ acc then uniq acc r else uniq (acc ++ [n]) r
end Mi
set_option maxHeartbeats 4000000
set_option maxHeartbeats 4000000
namespace HT
open PySem PySem.Spec PyProof.Rows
end HT
set_option maxHeartbeats 4000000
namespace Mi
open PySem PySem.Spec PyProof.Rows L2 RZ Ov PpSet
/-! ### repr of tuples and dicts -/
def kPy : Key → PyData
  | .inl i => .int i
  | .inr x => .str x
mutual
inductive Dq (K : PySem.W.Frag) (H : Hp) : V → PyData → Prop
  | non : Dq K H .non .none
  | bl (b : Bool) : Dq K H (.bl b) (.bool b)
  | int (i : Int) : Dq K H (.int i) (.int i)
  | str (x : Str) : Dq K H (.str x) (.str x)
  | tup {a : Addr} {xs : List V} {ds : List PyData} : SqT K H a xs → DqA K H xs ds → Dq K H (.ref a) (.tuple ds)
  | dct {a : Addr} {us : List (Key × V)} {kvs : List (PyData × PyData)} : H a = some (.dK us) → DqK K H us kvs → Dq K H (.ref a) (.dict kvs)
inductive DqA (K : PySem.W.Frag) (H : Hp) : List V → List PyData → Prop
  | nil : DqA K H [] []
  | cons {v : V} {vs : List V} {d : PyData} {ds : List PyData} : Dq K H v d → DqA K H vs ds → DqA K H (v :: vs) (d :: ds)
inductive DqK (K : PySem.W.Frag) (H : Hp) : List (Key × V) → List (PyData × PyData) → Prop
  | nil : DqK K H [] []
  | cons {k : Key} {v : V} {us : List (Key × V)} {d : PyData} {kvs : List (PyData × PyData)} : Dq K H v d → DqK K H us kvs → DqK K H ((k, v) :: us) ((kPy k, d) :: kvs)
end
section
variable {X : Cx} {pins : List (Addr × Obj)} {σ : L2.St} {H : Hp} {s : Shared}
theorem key_reads {k : Key} {u : Value} {h : Heap} (e : keyIs k u = true) : Reads h u (kPy k) [] := by
  rcases keyIs_shape e with ⟨i, t, rfl, rfl⟩ | ⟨x, t, rfl, rfl⟩
  · exact Reads.int i t
  · exact Reads.str x t
mutual
theorem Dq.reads (I : Inv X pins σ H s) : ∀ (d : PyData) (v : V) (u : Value), Dq X.K H v d → RelV v u → ∃ as, Reads s.heap u d as ∧ sysModules ∉ as
  | .none, _, _, h, r => by cases h; cases r; exact ⟨_, Reads.none, by simp⟩
  | .bool b, _, _, h, r => by cases h; cases r; exact ⟨_, Reads.bool b, by simp⟩
  | .int i, _, _, h, r => by cases h; obtain ⟨t, rfl⟩ := r; exact ⟨_, Reads.int i t, by simp⟩
  | .str x, _, _, h, r => by cases h; obtain ⟨t, rfl⟩ := r; exact ⟨_, Reads.str x t, by simp⟩
  | .list ds, _, _, h, r => by cases h
  | .tuple ds, _, _, h, r => by
    cases h with
    | tup hs ha =>
      cases r
      obtain ⟨its, rv, ⟨o, ho, hc, n, hd⟩, _⟩ := I.tuple hs
      obtain ⟨as, hr, hn⟩ := DqA.reads I ds _ its ha rv
      exact ⟨_, Reads.tuple ho hc hd hr, hn⟩
  | .dict kvs, _, _, h, r => by
    cases h with
    | @dct a us _ hs ha =>
      cases r
      obtain ⟨_, hne, vs, kv, o, es, ep, ho, hex, hd, _, pr, _⟩ := dk_of I.hok hs
      obtain ⟨as, bs, r1, r2, n1, n2⟩ := DqK.reads I kvs us vs es.toList ha kv pr
      refine ⟨_, Reads.dict ho hex.1 hd r1 r2, ?_⟩
      simp only [List.cons_append, List.mem_cons, List.mem_append, not_or]
      exact ⟨fun e => by rw [← e] at hne; simp at hne, n1, n2⟩
theorem DqA.reads (I : Inv X pins σ H s) : ∀ (ds : List PyData) (vs : List V) (us : List Value), DqA X.K H vs ds → Vals vs us → ∃ as, ReadsAll s.heap us ds as ∧ sysModules ∉ as
  | [], _, _, h, r => by cases h; cases r; exact ⟨_, ReadsAll.nil, by simp⟩
  | d :: ds, _, _, h, r => by
    cases h with
    | cons h1 h2 =>
      cases r with
      | cons r1 r2 =>
        obtain ⟨as, q1, n1⟩ := Dq.reads I d _ _ h1 r1
        obtain ⟨bs, q2, n2⟩ := DqA.reads I ds _ _ h2 r2
        exact ⟨_, ReadsAll.cons q1 q2, by simp only [List.mem_append, not_or]; exact ⟨n1, n2⟩⟩
theorem DqK.reads (I : Inv X pins σ H s) : ∀ (kvs : List (PyData × PyData)) (us : List (Key × V)) (vs : List (Key × Value)) (es : List DictEntry), DqK X.K H us kvs → KV us vs → Pairs (mixKind X.prog X.w) es vs →
    ∃ as bs, ReadsAll s.heap (es.map (·.key)) (kvs.map (·.1)) as ∧ ReadsAll s.heap (es.map (·.val)) (kvs.map (·.2)) bs ∧ sysModules ∉ as ∧ sysModules ∉ bs
  | [], _, _, _, h, kv, pr => by
    cases h
    unfold KV at kv
    cases kv
    cases pr
    exact ⟨_, _, ReadsAll.nil, ReadsAll.nil, by simp, by simp⟩
  | (k, d) :: kvs, _, _, _, h, kv, pr => by
    cases h with
    | cons h1 h2 =>
      unfold KV at kv
      cases kv with
      | @cons _ q _ vs rr kv =>
        cases pr with
        | cons p1 p2 p3 =>
          obtain ⟨as, q1, n1⟩ := Dq.reads I d _ _ h1 rr.2
          obtain ⟨as', bs', q2, q3, n2, n3⟩ := DqK.reads I kvs _ _ _ h2 kv p3
          rw [← rr.1] at p1
          refine ⟨_, _, ReadsAll.cons (key_reads p1) q2, ReadsAll.cons (p2 ▸ q1) q3, by simpa using n2, by simp only [List.mem_append, not_or]; exact ⟨n1, n3⟩⟩
end
end
end Mi
set_option maxHeartbeats 4000000
namespace Mi
open PySem PySem.Spec PyProof.Rows L2 RZ Ov PpSet
noncomputable def ce_is_code_1 : ME :=
  (eCall m_is_integer [.e (eVk 2), .e (eC (.int 0)), .e (eFk (e2 fSub (eFld ["InstructionSet"] "byte_count" (eV 0)) (eC (.int 1))))])
noncomputable def cp_is_code_1 : ME :=
  (eLc (iSeq (eVk 1)) (gN 2) bYes ce_is_code_1 [2])
noncomputable def b_is_code : MS :=
  (sSeq (sIf (bNot (bB (e1 (fIsa Kd.isTuple) (eV 1)))) (sRet (eC (.bl false))) sPass)
  (sRet (eL fAll (lCons cp_is_code_1 lNil))))
noncomputable def m_is_code : Fun := fnOf 1 [false, false] b_is_code
end Mi
set_option maxHeartbeats 4000000
set_option maxHeartbeats 4000000
set_option maxHeartbeats 4000000
namespace HT
open PySem PySem.Spec PyProof.Rows
end HT
set_option maxHeartbeats 4000000
namespace HT
open PySem PySem.Spec PyProof.Rows
open Sem (wp)
open AutoSeq1 (wpAny_loadPart')
/-! ### enumerate(tuple) -/
end HT
set_option maxHeartbeats 4000000
set_option maxHeartbeats 4000000
namespace Mi
open PySem PySem.Spec PyProof.Rows L2 RZ Ov PpSet
/-! ### d.values(), d.items() walked: the dict is locked for good, its name forgotten -/
section
variable {N : Cn} {C : Ct} {Z H : Hp} {F : List Addr}
theorem RdK.at : ∀ {kvs : List (D × D)} {us : List (Key × V)} {j : Nat}, RdK C Z H kvs us [] → j < us.length → ∃ q v d, us[j]? = some (q, v) ∧ kvs[j]? = some (kD q, d) ∧ RdV C Z H d v []
  | [], us, j, h, hj => by rw [RdK] at h; rw [h.1] at hj; simp at hj
  | (k, d) :: r, us, j, h, hj => by
    rw [RdK] at h
    obtain ⟨q, v, s, F1, F2, rfl, e, rfl, h1, h2⟩ := h
    obtain ⟨rfl, rfl⟩ := List.append_eq_nil_iff.mp e.symm
    cases j with
    | zero => exact ⟨q, v, d, rfl, rfl, h1⟩
    | succ j => exact RdK.at (j := j) h2 (by simpa using hj)
theorem RdK.len : ∀ {kvs : List (D × D)} {us : List (Key × V)} {F : List Addr}, RdK C Z H kvs us F → us.length = kvs.length
  | [], us, F, h => by rw [RdK] at h; rw [h.1]; rfl
  | (k, d) :: r, us, F, h => by
    rw [RdK] at h
    obtain ⟨q, v, s, F1, F2, rfl, e, rfl, h1, h2⟩ := h
    simp [RdK.len h2]
end
/-! ### d.setdefault(k, []).append(v): d, k, v names -/
end Mi
set_option maxHeartbeats 4000000
set_option maxHeartbeats 4000000
set_option maxHeartbeats 4000000
set_option maxHeartbeats 4000000
set_option maxHeartbeats 4000000
set_option maxHeartbeats 4000000
namespace Mi
open PySem PySem.Spec PyProof.Rows L2 RZ Ov PpSet
/-! ### "..".join(texts), str(int) -/
def strsD : List D → Option (List Str)
  | [] => some []
  | .str x :: r => (strsD r).map (x :: ·)
  | _ => none
theorem strsD_map (l : List Str) : strsD (l.map D.str) = some l := by
  induction l with
  | nil => rfl
  | cons n r ih => simp [strsD, ih]
section
variable {N : Cn} {C : Ct} {Z H Z' H' : Hp} {F F' : List Addr}
theorem RdL.strs : ∀ {ds : List D} {vs : List V} {F : List Addr} {ns : List Str}, RdL C Z H ds vs F → strsD ds = some ns → vs = ns.map V.str
  | [], _, _, ns, h, e => by rw [RdL] at h; rw [h.1]; cases e; rfl
  | d :: ds, _, _, ns, h, e => by
    rw [RdL] at h
    obtain ⟨v, r, F1, F2, rfl, _, h3, h4⟩ := h
    cases d with
    | str i =>
      rw [strsD, Option.map_eq_some_iff] at e
      obtain ⟨l, e, rfl⟩ := e
      rw [h3.strI, RdL.strs h4 e]; rfl
    | _ => simp [strsD] at e
end
def seqV : D → Option (List D)
  | .lst _ ds => some ds
  | .tup ds => some ds
  | _ => none
def fJoin (a : Str) (d : D) : Option D := match (seqV d).bind strsD with
  | some ys => if (ys.map (·.length)).sum + ys.length * a.length ≤ 16777216 then some (.str (Txt.join a ys)) else none
  | none => none
def rJoin (K : PySem.W.Frag) : V → List V → Hp → VK → Prop := fun x xs H Q => ∃ a p, ∃ ys : List Str, x = .str a ∧ xs = [.ref p] ∧ (SqL K H p (ys.map V.str) ∨ SqT K H p (ys.map V.str)) ∧
    (ys.map (·.length)).sum + ys.length * a.length ≤ 16777216 ∧ Q (.str (Txt.join a ys)) H
theorem f_join {C : Ct} {a : Str} : Fn1 C (fun y H Q => rJoin C.K (.str a) [y] H Q) (fJoin a) := by
  intro d v Fd Z H F Q e o rd hf p
  unfold fJoin at hf
  split at hf
  · rename_i ys hy
    split at hf
    · rename_i hz
      cases hf
      have q : Q (.str (Txt.join a ys)) H := post_val o p (by rw [RdV]; exact ⟨rfl, rfl⟩)
      cases d with
      | lst b ds =>
        obtain ⟨ad, vs, G, rfl, h1, h2⟩ := rd.lstP o.zh
        have hy : strsD ds = some ys := hy
        have := h2.strs hy
        subst this
        exact ⟨a, ad, ys, rfl, rfl, .inl (sqL_of h1), hz, q⟩
      | tup ds =>
        obtain ⟨_, ad, vs, rfl, h1, h2⟩ := rd.tupP o.zh
        have hy : strsD ds = some ys := hy
        have := h2.strs hy
        subst this
        exact ⟨a, ad, ys, rfl, rfl, .inr h1, hz, q⟩
      | _ => cases hy
    · cases hf
  · cases hf
section
variable {X : Cx} {N : Cn} {st : Bool} {e : Expr} {m : ME}
theorem re_join {st : Bool} {a : Str} {t : TE} {m : ME} (h : RefT N st t m) : RefE N st (tM1 (rJoin N.C.K) (tC (.str a)) t) (e1 (fJoin a) m) := fun env σ Z H F Q o re w => by
  refine ⟨⟨a, rfl⟩, h env σ Z H F _ o re (w.bind.mono (Pin.refl _ _) (Ext.refl o) ?_)⟩
  intro d env1 k v Z1 H1 Fd F1 x rd r1 sm
  obtain ⟨e, he⟩ := wp_lift k
  exact f_join d v Fd Z1 H1 F1 Q e x.ok rd he (post_end x r1 sm he k)
theorem q_join {a : Str} {j : Nat} {apos pos p : Pos} (ag : Ag X N) (ha : QT X N st e m) (hs : starEach [e] X.env = [(false, eval e X.env)] := by rfl) (hbase : attributeBase (.Constant (.str a) j p) "join" X.env (eval (.Constant (.str a) j p) X.env) = eval (.Constant (.str a) j p) X.env := by rfl) (hline : (apos.endLine == pos.line) = true := by rfl) :
    QE X N st (.Call (.Attribute (.Constant (.str a) j p) "join" apos) [e] [] pos) (e1 (fJoin a) m) := by
  obtain ⟨t, p', q⟩ := ha
  have h := pe_join (X := X) (pos := pos) (apos := apos) pe_str p' hs hbase hline
  rw [ag.K] at h
  exact ⟨_, h, re_join q⟩
end
def fStrI : List D → Option D
  | [.int i] => if i.natAbs.log2 < 1920 then some (.str (toString i)) else none
  | _ => none
def rStrI : List V → Hp → VK → Prop := fun xs H Q => ∃ i, xs = [.int i] ∧ i.natAbs.log2 < 1920 ∧ Q (.str (toString i)) H
theorem o_strI {X : Cx} : CallR X (.type "str") rStrI := call_str_int
theorem f_strI {C : Ct} : FnL C rStrI fStrI := by
  intro ds vs Z H F Q e o ra hf p
  unfold fStrI at hf
  split at hf
  · split at hf
    · rename_i i hi
      cases hf
      obtain ⟨v, F1, rfl, hd⟩ := ra.one
      rw [hd.intI]
      exact ⟨i, rfl, hi, post_val o p (by rw [RdV]; exact ⟨rfl, rfl⟩)⟩
    · cases hf
  · cases hf
end Mi
set_option maxHeartbeats 4000000
set_option maxHeartbeats 4000000
set_option maxHeartbeats 4000000
set_option maxHeartbeats 4000000
namespace Mi
open PySem PySem.Spec PyProof.Rows L2 RZ Ov PpSet
/-! ### repr of data with lists, tuples and dicts -/
mutual
inductive Dr (K : PySem.W.Frag) (H : Hp) : V → PyData → Prop
  | non : Dr K H .non .none
  | bl (b : Bool) : Dr K H (.bl b) (.bool b)
  | int (i : Int) : Dr K H (.int i) (.int i)
  | str (x : Str) : Dr K H (.str x) (.str x)
  | tup {a : Addr} {xs : List V} {ds : List PyData} : SqT K H a xs → DrA K H xs ds → Dr K H (.ref a) (.tuple ds)
  | lst {a : Addr} {xs : List V} {ds : List PyData} : SqL K H a xs → DrA K H xs ds → Dr K H (.ref a) (.list ds)
  | dct {a : Addr} {us : List (Key × V)} {kvs : List (PyData × PyData)} : H a = some (.dK us) → DrK K H us kvs → Dr K H (.ref a) (.dict kvs)
inductive DrA (K : PySem.W.Frag) (H : Hp) : List V → List PyData → Prop
  | nil : DrA K H [] []
  | cons {v : V} {vs : List V} {d : PyData} {ds : List PyData} : Dr K H v d → DrA K H vs ds → DrA K H (v :: vs) (d :: ds)
inductive DrK (K : PySem.W.Frag) (H : Hp) : List (Key × V) → List (PyData × PyData) → Prop
  | nil : DrK K H [] []
  | cons {k : Key} {v : V} {us : List (Key × V)} {d : PyData} {kvs : List (PyData × PyData)} : Dr K H v d → DrK K H us kvs → DrK K H ((k, v) :: us) ((kPy k, d) :: kvs)
end
section
variable {X : Cx} {pins : List (Addr × Obj)} {σ : L2.St} {H : Hp} {s : Shared}
open PyData (shownAll showableAll depthAll)
/-- v is told as d within the heap: by which objects, and how deep -/
structure Tl (X : Cx) (s : Shared) (u : Value) (d : PyData) (bs as : List Addr) : Prop where
  at_ : ReadAtMost s.heap d.depth bs
  rp : ReprK X.prog X.w bs s.heap d.depth u d.shown
  rd : Reads s.heap u d as
structure TlA (X : Cx) (s : Shared) (us : List Value) (ds : List PyData) (bs as : List Addr) : Prop where
  at_ : ReadAtMost s.heap (PyData.depthAll ds) bs
  rp : ReprAllK X.prog X.w bs s.heap (PyData.depthAll ds) us (shownAll ds)
  rd : ReadsAll s.heap us ds as
theorem ram_nil {h : Heap} {n : Nat} : ReadAtMost h n [] := fun b hb => (List.not_mem_nil hb).elim
theorem TlA.nil : TlA X s [] [] [] [] := ⟨ram_nil, by rw [shownAll]; exact .nil, .nil⟩
theorem TlA.cons {u : Value} {us : List Value} {d : PyData} {ds : List PyData} {b1 a1 b2 a2 : List Addr} (h : Tl X s u d b1 a1) (t : TlA X s us ds b2 a2) : TlA X s (u :: us) (d :: ds) (b1 ++ b2) (a1 ++ a2) := by
  have l1 : d.depth ≤ depthAll (d :: ds) := by rw [depthAll]; exact Nat.le_max_left ..
  have l2 : depthAll ds ≤ depthAll (d :: ds) := by rw [depthAll]; exact Nat.le_max_right ..
  refine ⟨(h.at_.mono l1).append (t.at_.mono l2), ?_, .cons h.rd t.rd⟩
  rw [shownAll]
  exact .cons ((h.rp.more fun q hq => List.mem_append_left b2 hq).level_le l1) (t.rp.more_le (fun q hq => List.mem_append_right b1 hq) l2)
theorem tl_leaf {u : Value} {d : PyData} (h : ReprIs X.prog X.w u d.shown) (r : Reads s.heap u d []) : Tl X s u d [] [] := ⟨ram_nil, .of_is h _ _ _, r⟩
theorem tl_int {i : Int} {t : Tok} (hs : (PyData.int i).showable = true) : Tl X s (.int i t) (.int i) [] [] := tl_leaf (by
  rw [PyData.shown]
  exact ReprIs.int t (by rw [PyData.showable, decide_eq_true_eq] at hs; exact hs)) (.int i t)
theorem tl_str {x : Str} {t : Tok} (hz : (PyData.str x).shown.length ≤ sizeLine) : Tl X s (.str x t) (.str x) [] [] := tl_leaf (by
  rw [PyData.shown] at hz ⊢
  exact ReprIs.str x t hz) (.str x t)
theorem tl_tup {a : Addr} {o : Obj} {its : List Value} {n : Nat} {ds : List PyData} {bs as : List Addr} (e : s.heap.get? a = some o) (hc : o.cls = .type "tuple") (hd : o.data = .seq its.toArray n) (t : TlA X s its ds bs as) : Tl X s (.ref a) (.tuple ds) (a :: bs) as := by
  have r : Reads s.heap (.ref a) (.tuple ds) as := .tuple e hc hd t.rd
  have dp : (PyData.tuple ds).depth = PyData.depthAll ds + 1 := by rw [PyData.depth]
  refine ⟨.cons r (by omega) t.at_, ?_, r⟩
  rw [dp, PyData.shown]
  exact ReprK.tuple e hc hd (not_mem_of_deeper r (by omega) t.at_) t.rp
theorem tl_lst {a : Addr} {o : Obj} {its : List Value} {n : Nat} {ds : List PyData} {bs as : List Addr} (e : s.heap.get? a = some o) (hc : o.cls = .type "list") (hd : o.data = .seq its.toArray n) (t : TlA X s its ds bs as) : Tl X s (.ref a) (.list ds) (a :: bs) (a :: as) := by
  have r : Reads s.heap (.ref a) (.list ds) (a :: as) := .list e hc hd t.rd
  have dp : (PyData.list ds).depth = PyData.depthAll ds + 1 := by rw [PyData.depth]
  refine ⟨.cons r (by omega) t.at_, ?_, r⟩
  rw [dp, PyData.shown]
  cases its with
  | nil =>
    obtain rfl : ds = [] := by cases t.rd; rfl
    rw [shownAll, listText_nil]
    exact ReprK.listEmpty e hc hd
  | cons x l => exact ReprK.list e hc hd (not_mem_of_deeper r (by omega) t.at_) (by have := t.rp.length_eq; simpa using this) (fun i y q => t.rp.item i y (by simpa using q))
theorem tl_dct {a : Addr} {o : Obj} {es : Array DictEntry} {n : Nat} {kvs : List (PyData × PyData)} {b1 a1 b2 a2 : List Addr} (ns : (a == sysModules) = false) (e : s.heap.get? a = some o) (hc : o.cls = .type "dict") (hd : o.data = .dict es n)
    (t1 : TlA X s (es.toList.map (·.key)) (kvs.map (·.1)) b1 a1) (t2 : TlA X s (es.toList.map (·.val)) (kvs.map (·.2)) b2 a2) : Tl X s (.ref a) (.dict kvs) (a :: (b1 ++ b2)) (a :: a1 ++ a2) := by
  have r : Reads s.heap (.ref a) (.dict kvs) (a :: a1 ++ a2) := .dict e hc hd t1.rd t2.rd
  have dp : (PyData.dict kvs).depth = PyData.depthKv kvs + 1 := by rw [PyData.depth]
  have k1 := PyData.depthAll_keys_le kvs
  have k2 := PyData.depthAll_vals_le kvs
  have hb : ReadAtMost s.heap (PyData.depthKv kvs) (b1 ++ b2) := (t1.at_.mono k1).append (t2.at_.mono k2)
  refine ⟨.cons r (by omega) hb, ?_, r⟩
  rw [dp, PyData.shown, PyData.shownKv_eq]
  exact ReprK.dict e hc hd ns (not_mem_of_deeper r (by omega) hb) (ReprEntriesK.of_two es.toList _ _ (t1.rp.more_le (fun q hq => List.mem_append_left b2 hq) k1) (t2.rp.more_le (fun q hq => List.mem_append_right b1 hq) k2))
theorem in_list {ds : List PyData} (h : (PyData.list ds).shown.length ≤ sizeLine) : ∀ t ∈ shownAll ds, t.length ≤ sizeLine := fun t ht => by
  rw [PyData.shown] at h
  exact Nat.le_trans (listText_mem_le ht) h
theorem in_tup {ds : List PyData} (h : (PyData.tuple ds).shown.length ≤ sizeLine) : ∀ t ∈ shownAll ds, t.length ≤ sizeLine := fun t ht => by
  rw [PyData.shown] at h
  exact Nat.le_trans (tupleText_mem_le ht) h
theorem in_keys {kvs : List (PyData × PyData)} (h : (PyData.dict kvs).shown.length ≤ sizeLine) : ∀ t ∈ shownAll (kvs.map (·.1)), t.length ≤ sizeLine := fun t ht => by
  rw [PyData.shown] at h
  obtain ⟨p, hp, hl⟩ := PyData.shownKv_key_le kvs t ht
  exact Nat.le_trans hl (Nat.le_trans (dictText_mem_le hp) h)
theorem in_vals {kvs : List (PyData × PyData)} (h : (PyData.dict kvs).shown.length ≤ sizeLine) : ∀ t ∈ shownAll (kvs.map (·.2)), t.length ≤ sizeLine := fun t ht => by
  rw [PyData.shown] at h
  obtain ⟨p, hp, hl⟩ := PyData.shownKv_val_le kvs t ht
  exact Nat.le_trans hl (Nat.le_trans (dictText_mem_le hp) h)
theorem key_tl {k : Key} {u : Value} (e : keyIs k u = true) (hs : (kPy k).showable = true) (hz : (kPy k).shown.length ≤ sizeLine) : Tl X s u (kPy k) [] [] := by
  rcases keyIs_shape e with ⟨i, t, rfl, rfl⟩ | ⟨x, t, rfl, rfl⟩
  · exact tl_int hs
  · exact tl_str hz
mutual
theorem Dr.told (I : Inv X pins σ H s) : ∀ (d : PyData) (v : V) (u : Value), Dr X.K H v d → RelV v u → d.showable = true → d.shown.length ≤ sizeLine → ∃ bs as, Tl X s u d bs as
  | .none, _, _, h, r, _, _ => by cases h; cases r; exact ⟨_, _, tl_leaf (by rw [PyData.shown]; exact ReprIs.none) .none⟩
  | .bool b, _, _, h, r, _, _ => by cases h; cases r; exact ⟨_, _, tl_leaf (by rw [PyData.shown]; exact ReprIs.bool b) (.bool b)⟩
  | .int i, _, _, h, r, hs, _ => by cases h; obtain ⟨t, rfl⟩ := r; exact ⟨_, _, tl_int hs⟩
  | .str x, _, _, h, r, _, hz => by cases h; obtain ⟨t, rfl⟩ := r; exact ⟨_, _, tl_str hz⟩
  | .list ds, _, _, h, r, hs, hz => by
    cases h with
    | lst hq ha =>
      cases r
      obtain ⟨its, rv, ⟨o, n, ho, hc, _, hd⟩, _⟩ := I.list hq
      obtain ⟨bs, as, t⟩ := DrA.told I ds _ its ha rv (by simpa [PyData.showable] using hs) (in_list hz)
      exact ⟨_, _, tl_lst ho hc hd t⟩
  | .tuple ds, _, _, h, r, hs, hz => by
    cases h with
    | tup hq ha =>
      cases r
      obtain ⟨its, rv, ⟨o, ho, hc, n, hd⟩, _⟩ := I.tuple hq
      obtain ⟨bs, as, t⟩ := DrA.told I ds _ its ha rv (by simpa [PyData.showable] using hs) (in_tup hz)
      exact ⟨_, _, tl_tup ho hc hd t⟩
  | .dict kvs, _, _, h, r, hs, hz => by
    cases h with
    | @dct a us _ hq ha =>
      cases r
      obtain ⟨_, hne, vs, kv, o, es, ep, ho, hex, hd, _, pr, _⟩ := dk_of I.hok hq
      obtain ⟨s1, s2⟩ := PyData.showableKv_split kvs (by simpa [PyData.showable] using hs)
      obtain ⟨b1, a1, b2, a2, t1, t2⟩ := DrK.told I kvs us vs es.toList ha kv pr s1 s2 (in_keys hz) (in_vals hz)
      exact ⟨_, _, tl_dct hne ho hex.1 hd t1 t2⟩
theorem DrA.told (I : Inv X pins σ H s) : ∀ (ds : List PyData) (vs : List V) (us : List Value), DrA X.K H vs ds → Vals vs us → showableAll ds = true → (∀ t ∈ shownAll ds, t.length ≤ sizeLine) → ∃ bs as, TlA X s us ds bs as
  | [], _, _, h, r, _, _ => by cases h; cases r; exact ⟨_, _, .nil⟩
  | d :: ds, _, _, h, r, hs, hz => by
    cases h with
    | cons h1 h2 =>
      cases r with
      | cons r1 r2 =>
        rw [showableAll, Bool.and_eq_true] at hs
        rw [shownAll] at hz
        obtain ⟨b1, a1, t1⟩ := Dr.told I d _ _ h1 r1 hs.1 (hz _ (List.mem_cons_self ..))
        obtain ⟨b2, a2, t2⟩ := DrA.told I ds _ _ h2 r2 hs.2 fun t ht => hz t (List.mem_cons_of_mem _ ht)
        exact ⟨_, _, .cons t1 t2⟩
theorem DrK.told (I : Inv X pins σ H s) : ∀ (kvs : List (PyData × PyData)) (us : List (Key × V)) (vs : List (Key × Value)) (es : List DictEntry), DrK X.K H us kvs → KV us vs → Pairs (mixKind X.prog X.w) es vs →
    showableAll (kvs.map (·.1)) = true → showableAll (kvs.map (·.2)) = true → (∀ t ∈ shownAll (kvs.map (·.1)), t.length ≤ sizeLine) → (∀ t ∈ shownAll (kvs.map (·.2)), t.length ≤ sizeLine) →
    ∃ b1 a1 b2 a2, TlA X s (es.map (·.key)) (kvs.map (·.1)) b1 a1 ∧ TlA X s (es.map (·.val)) (kvs.map (·.2)) b2 a2
  | [], _, _, _, h, kv, pr, _, _, _, _ => by
    cases h
    unfold KV at kv
    cases kv
    cases pr
    exact ⟨_, _, _, _, .nil, .nil⟩
  | (k, d) :: kvs, _, _, _, h, kv, pr, s1, s2, z1, z2 => by
    cases h with
    | cons h1 h2 =>
      unfold KV at kv
      cases kv with
      | @cons _ q _ vs rr kv =>
        cases pr with
        | cons p1 p2 p3 =>
          rw [List.map_cons, showableAll, Bool.and_eq_true] at s1 s2
          rw [List.map_cons, shownAll] at z1 z2
          rw [← rr.1] at p1
          obtain ⟨b1, a1, t1⟩ := Dr.told I d _ _ h1 rr.2 s2.1 (z2 _ (List.mem_cons_self ..))
          obtain ⟨c1, e1, c2, e2, u1, u2⟩ := DrK.told I kvs _ _ _ h2 kv p3 s1.2 s2.2 (fun t ht => z1 t (List.mem_cons_of_mem _ ht)) fun t ht => z2 t (List.mem_cons_of_mem _ ht)
          exact ⟨_, _, _, _, .cons (key_tl p1 s1.1 (z1 _ (List.mem_cons_self ..))) u1, .cons (p2 ▸ t1) u2⟩
end
end
def rReprR (K : PySem.W.Frag) : List V → Hp → VK → Prop := fun xs H Q => ∃ a d, xs = [.ref a] ∧ Dr K H (.ref a) d ∧ d.showable = true ∧ d.depth ≤ 60 ∧ d.shown.length ≤ sizeLine ∧ Q (.str d.shown) H
theorem cr_reprR {X : Cx} (hg : X.A.guards = some []) (hu : X.A.units + 64 < cLine) : CallR X (.builtin "repr") (rReprR X.K) := by
  intro pins s σ H xs us Q I r h
  obtain ⟨a, d, rfl, hd, hs, hdp, hz, q⟩ := h
  rw [Vals.ref1 r]
  have fin : ∀ (h' : Heap) (u k : Nat), (∀ b o, s.heap.get? b = some o → h'.get? b = some o) → EP X pins σ Q (.str d.shown u) { s with heap := h', toks := k } := fun h' u tk hk => ⟨.str _, H, I.kept hk, ⟨_, rfl⟩, q⟩
  cases hd with
  | lst hq ha =>
    rename_i ds
    obtain ⟨its, rv, ⟨o, n, ho, hc, hx, hd⟩, _⟩ := I.list hq
    obtain ⟨bs, as, t⟩ := DrA.told I ds _ its ha rv (by simpa [PyData.showable] using hs) (in_list hz)
    rw [PyData.shown] at fin hz
    have r : Reads s.heap (.ref a) (.list ds) (a :: as) := .list ho hc hd t.rd
    have dp : (PyData.list ds).depth = PyData.depthAll ds + 1 := by rw [PyData.depth]
    refine call_repr_slot (by omega) ⟨o, ho, hc⟩ F.slot_list_repr.toG ?_
    cases its with
    | nil =>
      obtain rfl : ds = [] := by cases t.rd; rfl
      rw [PyData.shownAll, listText_nil] at fin
      exact call_list_repr_empty ⟨o, ho, hc⟩ ho hd ⟨_, _, rfl, fin s.heap _ _ fun _ _ e => e⟩
    | cons x l => exact call_list_reprK ho hc hd (not_mem_of_deeper r (by omega) t.at_) (by have := t.rp.length_eq; simpa using this) (fun i y q => t.rp.item i y (by simpa using q)) hg (fun b _ => Clear.nil b) (by show X.A.units + 1 + _ < cLine; omega) (fun _ _ e => e) (fun h' u tk hk => ⟨_, _, rfl, fin h' u tk hk⟩) hz
  | tup hq ha =>
    rename_i ds
    obtain ⟨its, rv, ⟨o, ho, hc, n, hd⟩, _⟩ := I.tuple hq
    obtain ⟨bs, as, t⟩ := DrA.told I ds _ its ha rv (by simpa [PyData.showable] using hs) (in_tup hz)
    rw [PyData.shown] at fin hz
    have r : Reads s.heap (.ref a) (.tuple ds) as := .tuple ho hc hd t.rd
    have dp : (PyData.tuple ds).depth = PyData.depthAll ds + 1 := by rw [PyData.depth]
    refine call_repr_slot (by omega) ⟨o, ho, hc⟩ F.slot_tuple_repr ?_
    exact call_tuple_reprK ho hc hd (not_mem_of_deeper r (by omega) t.at_) t.rp hg (fun b _ => Clear.nil b) (by show X.A.units + 1 + _ < cLine; omega) (fun _ _ e => e) (fun h' u tk hk => ⟨_, _, rfl, fin h' u tk hk⟩) hz
  | dct hq ha =>
    rename_i us kvs
    obtain ⟨_, hne, vs, kv, o, es, ep, ho, hex, hd, _, pr, _⟩ := dk_of I.hok hq
    obtain ⟨s1, s2⟩ := PyData.showableKv_split kvs (by simpa [PyData.showable] using hs)
    obtain ⟨b1, a1, b2, a2, t1, t2⟩ := DrK.told I kvs us vs es.toList ha kv pr s1 s2 (in_keys hz) (in_vals hz)
    have r : Reads s.heap (.ref a) (.dict kvs) (a :: a1 ++ a2) := .dict ho hex.1 hd t1.rd t2.rd
    have dp : (PyData.dict kvs).depth = PyData.depthKv kvs + 1 := by rw [PyData.depth]
    have k1 := PyData.depthAll_keys_le kvs
    have k2 := PyData.depthAll_vals_le kvs
    have hb : ReadAtMost s.heap (PyData.depthKv kvs) (b1 ++ b2) := (t1.at_.mono k1).append (t2.at_.mono k2)
    rw [PyData.shown, PyData.shownKv_eq] at fin hz
    refine call_repr_slot (by omega) ⟨o, ho, hex.1⟩ F.slot_dict_repr ?_
    exact call_dict_reprK ho hex.1 hd hne (not_mem_of_deeper r (by omega) hb) (ReprEntriesK.of_two es.toList _ _ (t1.rp.more_le (fun q hq => List.mem_append_left b2 hq) k1) (t2.rp.more_le (fun q hq => List.mem_append_right b1 hq) k2)) hg (fun b _ => Clear.nil b) (by show X.A.units + 1 + _ < cLine; omega) (fun _ _ e => e) (fun h' u tk hk => ⟨_, _, rfl, fin h' u tk hk⟩) hz
mutual
def toPyR : D → Option PyData
  | .non => some .none
  | .bl b => some (.bool b)
  | .int i => some (.int i)
  | .str x => some (.str x)
  | .tup ds => (toPyRL ds).map .tuple
  | .lst _ ds => (toPyRL ds).map .list
  | .dct _ kvs => (toPyRK kvs).map .dict
  | _ => none
def toPyRL : List D → Option (List PyData)
  | [] => some []
  | d :: ds => (toPyR d).bind fun p => (toPyRL ds).map (p :: ·)
def toPyRK : List (D × D) → Option (List (PyData × PyData))
  | [] => some []
  | (k, d) :: r => match k with
    | .int i => (toPyR d).bind fun p => (toPyRK r).map ((.int i, p) :: ·)
    | .str x => (toPyR d).bind fun p => (toPyRK r).map ((.str x, p) :: ·)
    | _ => none
end
section
variable {C : Ct} {Z H : Hp}
mutual
theorem RdV.dr (zh : Same Z H) : ∀ (d : D) (v : V) (F : List Addr) (p : PyData), toPyR d = some p → RdV C Z H d v F → Dr C.K H v p
  | .non, v, F, p, e, h => by rw [toPyR] at e; cases e; rw [RdV] at h; rw [h.1]; exact .non
  | .bl b, v, F, p, e, h => by rw [toPyR] at e; cases e; rw [RdV] at h; rw [h.1]; exact .bl b
  | .int b, v, F, p, e, h => by rw [toPyR] at e; cases e; rw [RdV] at h; rw [h.1]; exact .int b
  | .str b, v, F, p, e, h => by rw [toPyR] at e; cases e; rw [RdV] at h; rw [h.1]; exact .str b
  | .tup ds, v, F, p, e, h => by
    rw [toPyR, Option.map_eq_some_iff] at e
    obtain ⟨ps, e, rfl⟩ := e
    obtain ⟨_, a, vs, rfl, h1, h2⟩ := h.tupP zh
    exact .tup h1 (RdL.dr zh ds vs [] ps e h2)
  | .dct o kvs, v, F, p, e, h => by
    rw [toPyR, Option.map_eq_some_iff] at e
    obtain ⟨ps, e, rfl⟩ := e
    obtain ⟨a, us, G, rfl, h1, h2⟩ := h.dctP zh
    exact .dct h1 (RdK.dr zh kvs us G ps e h2)
  | .lst o ds, v, F, p, e, h => by
    rw [toPyR, Option.map_eq_some_iff] at e
    obtain ⟨ps, e, rfl⟩ := e
    obtain ⟨a, vs, G, rfl, h1, h2⟩ := h.lstP zh
    exact .lst (sqL_of h1) (RdL.dr zh ds vs G ps e h2)
  | .ins o c fs, v, F, p, e, h => by simp [toPyR] at e
  | .set ks, v, F, p, e, h => by simp [toPyR] at e
  | .scr ds, v, F, p, e, h => by simp [toPyR] at e
  | .exn _ _, v, F, p, e, h => by simp [toPyR] at e
  | .fnc _ _ _ _ _, v, F, p, e, h => by simp [toPyR] at e
  | .dcg _ _, v, F, p, e, h => by simp [toPyR] at e
theorem RdL.dr (zh : Same Z H) : ∀ (ds : List D) (vs : List V) (F : List Addr) (ps : List PyData), toPyRL ds = some ps → RdL C Z H ds vs F → DrA C.K H vs ps
  | [], vs, F, ps, e, h => by rw [toPyRL] at e; cases e; rw [RdL] at h; rw [h.1]; exact .nil
  | d :: ds, vs, F, ps, e, h => by
    rw [toPyRL, Option.bind_eq_some_iff] at e
    obtain ⟨p, e1, e⟩ := e
    rw [Option.map_eq_some_iff] at e
    obtain ⟨qs, e2, rfl⟩ := e
    rw [RdL] at h
    obtain ⟨v, r, F1, F2, rfl, rfl, h3, h4⟩ := h
    exact .cons (RdV.dr zh d v F1 p e1 h3) (RdL.dr zh ds r F2 qs e2 h4)
theorem RdK.dr (zh : Same Z H) : ∀ (kvs : List (D × D)) (us : List (Key × V)) (F : List Addr) (ps : List (PyData × PyData)), toPyRK kvs = some ps → RdK C Z H kvs us F → DrK C.K H us ps
  | [], us, F, ps, e, h => by rw [toPyRK] at e; cases e; rw [RdK] at h; rw [h.1]; exact .nil
  | (k, d) :: kvs, us, F, ps, e, h => by
    rw [RdK] at h
    obtain ⟨q, v, r, F1, F2, rfl, rfl, rfl, h3, h4⟩ := h
    cases q with
    | inl i =>
      have e : toPyRK ((.int i, d) :: kvs) = some ps := e
      rw [toPyRK] at e
      rw [Option.bind_eq_some_iff] at e
      obtain ⟨p, e1, e⟩ := e
      rw [Option.map_eq_some_iff] at e
      obtain ⟨qs, e2, rfl⟩ := e
      exact .cons (k := .inl i) (RdV.dr zh d v F1 p e1 h3) (RdK.dr zh kvs r F2 qs e2 h4)
    | inr i =>
      have e : toPyRK ((.str i, d) :: kvs) = some ps := e
      rw [toPyRK] at e
      rw [Option.bind_eq_some_iff] at e
      obtain ⟨p, e1, e⟩ := e
      rw [Option.map_eq_some_iff] at e
      obtain ⟨qs, e2, rfl⟩ := e
      exact .cons (k := .inr i) (RdV.dr zh d v F1 p e1 h3) (RdK.dr zh kvs r F2 qs e2 h4)
end
end
def isRefR : D → Bool
  | .tup _ => true
  | .lst _ _ => true
  | .dct _ _ => true
  | _ => false
def fReprR : List D → Option D
  | [d] => match toPyR d with
    | some p => if isRefR d && p.showable && decide (p.depth ≤ 60) && decide (p.shown.length ≤ sizeLine) then some (.str p.shown) else none
    | none => none
  | _ => none
def fReprV (ds : List D) : Option D := match fReprR ds with
  | some r => some r
  | none => fRepr ds
theorem f_reprR {C : Ct} : FnL C (rReprR C.K) fReprR := by
  intro ds vs Z H F Q e o ra hf p
  unfold fReprR at hf
  split at hf
  · rename_i d
    split at hf
    · rename_i q hq
      split at hf
      · rename_i hc
        cases hf
        simp only [Bool.and_eq_true, decide_eq_true_eq] at hc
        obtain ⟨v, F1, rfl, hd⟩ := ra.one
        have h1 := RdV.dr o.zh d v F1 q hq hd
        have : ∃ a, v = .ref a := by
          cases d with
          | tup xs => obtain ⟨_, a, _, e, _⟩ := hd.tupP o.zh; exact ⟨a, e⟩
          | lst o' xs => obtain ⟨a, _, _, e, _⟩ := hd.lstP o.zh; exact ⟨a, e⟩
          | dct o' xs => obtain ⟨a, _, _, e, _⟩ := hd.dctP o.zh; exact ⟨a, e⟩
          | _ => simp [isRefR] at hc
        obtain ⟨a, rfl⟩ := this
        exact ⟨a, q, rfl, h1, hc.1.1.2, hc.1.2, hc.2, post_val o p (by rw [RdV]; exact ⟨rfl, rfl⟩)⟩
      · cases hf
    · cases hf
  · cases hf
def rReprV (K : PySem.W.Frag) : List V → Hp → VK → Prop := fun xs H Q => (∃ x d, xs = [x] ∧ Dp K H x d ∧ d.showable = true ∧ d.depth ≤ 60 ∧ d.shown.length ≤ sizeLine ∧ Q (.str d.shown) H) ∨ rReprR K xs H Q
theorem o_reprV {X : Cx} (K : PySem.W.Frag) (hg : X.A.guards = some []) (hu : X.A.units + 64 < cLine) (h : X.K = K := by rfl) : CallR X (.builtin "repr") (rReprV K) := by
  subst h
  exact CallR.or (k_repr X.K hg hu) (cr_reprR hg hu)
theorem f_reprV {C : Ct} : FnL C (rReprV C.K) fReprV := by
  intro ds vs Z H F Q e o ra hf p
  unfold fReprV at hf
  split at hf
  · rename_i r hr
    cases hf
    exact .inr (f_reprR ds vs Z H F Q e o ra hr p)
  · exact .inl (f_repr ds vs Z H F Q e o ra hf p)
end Mi
set_option maxHeartbeats 4000000
/-! ### d.update(d2), d.get(k, None), len(set([..])) of ints and None -/
namespace L2
open PySem PySem.Spec PyProof.Rows
/-! a set of leaves -/
def nd {α : Type} [DecidableEq α] : List α → Nat
  | [] => 0
  | k :: r => if k ∈ r then nd r else nd r + 1
end L2
set_option maxHeartbeats 4000000
set_option maxHeartbeats 4000000
namespace Mi
open PySem PySem.Spec PyProof.Rows L2 RZ Ov PpSet
open LamX (CodeO Tabs TabS)
/-! ### raise Cls(v), the class keeping v under a name -/
def spErr (K : PySem.W.Frag) (C : Addr) (f : Str) : Sp := fun vs H Q _ => ∃ (a : Addr) (y : V), vs = [.ref a, y] ∧ H a = some (exo a C none) ∧ ∀ dx, H dx = none → dx ≠ a → Q .non (upd (upd H dx (exd dx [(f, y)])) a (exo a C (some dx)))
def sRaise (c f : String) (m : ME) : MS := fun env => (m env).bind fun d e => if fzn d then .ex ⟨c, [(f, d)]⟩ e else .no
theorem rs_raise {N : Cn} {W : Value → Option Addr → L2.St → Hp → Prop} {st : Bool} {t : TE} {m : ME} {c f : String} {C : Addr} (hp : N.px = some W) (hc : N.C.cls c = some C) (h : RefE N st t m) :
    RefS N (fun _ σ H => tMkO C (spErr N.C.K C (PySem.Str.ofString f)) [] (tCons t tNil) σ H fun cls d H' => W cls d σ H') (sRaise c f m) := fun env σ Z H F D0 o r w => by
  refine h env σ Z H F _ o r (w.bind.mono (Pin.refl _ _) (Ext.refl o) ?_)
  intro d env1 k v Z1 H1 Fv F1 x rv r1 _
  split at k
  case isFalse => exact k.elim
  rename_i hz
  have := RdV.fzn d v Fv hz rv
  subst this
  have k : Wish N σ Z H F ⟨c, [(f, d)]⟩ env1 := k
  unfold Wish at k
  rw [hp] at k
  refine ⟨Nat.le_add_left 1 999, fun a ha => ⟨a, v, rfl, upd_same, fun dx hdx hne => ⟨rfl, dx, [(PySem.Str.ofString f, v)], ?_, ?_, ?_, ?_⟩⟩⟩
  · exact upd_same
  · rw [upd_ne hne, upd_same]
  · rw [upd_ne hne] at hdx; exact hdx
  · rw [upd_ne hne] at hdx
    have e : upd (del (upd (upd (upd H1 a (exo a C none)) dx (exd dx [(PySem.Str.ofString f, v)])) a (exo a C (some dx))) a) dx (.xd [(PySem.Str.ofString f, v)]) = upd H1 dx (.xd [(PySem.Str.ofString f, v)]) := by
      funext b
      by_cases q : b = dx
      · rw [q, upd_same, upd_same]
      · rw [upd_ne q, upd_ne q]
        by_cases p : b = a
        · rw [p, del_same, ha]
        · rw [del_ne p, upd_ne p, upd_ne q, upd_ne p]
    rw [e]
    have y := Ext.junk (o := .xd [(PySem.Str.ofString f, v)]) x.ok.split hdx
    refine k σ (some dx) C Z1 _ F1 [(PySem.Str.ofString f, v)] (Pin.refl _ _) (x.right.trans y) (r1.same (Same.refl _) (same_new hdx)) hc (show XdAt _ (some dx) _ from upd_same) ?_
    rw [RdF]
    refine ⟨v, [], [], [], rfl, rfl, rv.same (Same.refl _) (same_new hdx), ?_⟩
    rw [RdF]
    exact ⟨rfl, rfl⟩
/-- such an __init__ -/
theorem err_fn {P : Program} {w : World} {K : PySem.W.Frag} {mg : Str → Option Value} {base : Heap} {qual v f : Str} {st : Stmt} {fa C : Addr} {fd : FuncData} {p1 p2 p' pos : Pos} (F : L2.Fun K "__init__" qual st fa fd) (T : OexC K C) (hf : PySem.W.findIn K (.ref C) f = some none)
    (S : FnScope ["self", v] ["self", v] (defScope st)) (hb : defBody st = [.Assign [.Attribute (.Name "self" p1) f p'] (.Name v p2) pos]) (hv1 : Vis (defScope st) "self") (hv2 : Vis (defScope st) v) (hd2 : (v == ("__debug__" : Str)) = false) (hc2 : (v == ("__classdict__" : Str)) = false)
    (hs : ∀ X : Cx, swapsWith (.Name v p2) (some (.Attribute (.Name "self" p1) f p')) pos.line X.env = pure false) : FnOk P w K mg base CX0 1 fa fd ["self", v] (spErr K C f) := by
  obtain ⟨oc, od, kV, doc, pm, an, cdv, ct, osl, rfl, lk, hcd⟩ := F.ex
  refine fn_of (k := 0) lk hcd S (by rintro vs H Q E ⟨a, y, rfl, _⟩; rfl) ?_
  rintro A outer s H vs Q E _ ⟨a, y, rfl, ha, q⟩
  rw [hb]
  refine ⟨_, pss_one (ps_ost (pe_var (i := 0) rfl hv1 (by decide) (by decide)) (pe_var (i := 1) rfl hv2 hd2 hc2) (hs _)), ?_⟩
  exact ⟨y, rfl, .ref a, rfl, a, C, rfl, T, hf, .inl ⟨ha, fun dx h1 h2 => q dx h1 h2⟩⟩
/-- an error class of the program -/
structure ErrC (P : Program) (w : World) (K : PySem.W.Frag) (mg : Str → Option Value) (base : Heap) (x : Str) (f : String) (C : Addr) : Prop where
  T : OexC K C
  mC : mg x = some (.ref C)
  ex : ∃ (fI : Addr) (fd : FuncData) (ps : List Str), PySem.W.findIn K (.ref C) "__init__" = some (some (.ref fI)) ∧ PySem.W.typeIn K (.ref fI) = some (.type "function") ∧ FnOk P w K mg base CX0 1 fI fd ps (spErr K C (PySem.Str.ofString f)) ∧ Binds K fd ps []
theorem qs_raise {X : Cx} {N : Cn} {W : WX} {st : Bool} {j : Nat} {x : Str} {c f : String} {C : Addr} {e : Expr} {m : ME} {p pos pos2 : Pos} (ec : ErrC X.prog X.w X.K X.mg X.base x f C) (hr : Rm j X.A) (ag : Ag X N) (tk : Takes X W) (hp : N.px = some W) (hcl : N.C.cls c = some C) (he : QE X N st e m)
    (hk : 2 ≤ j := by decide) (hc : X.calm = true := by rfl) (hg : Gl X x := by rfl) (hdb : (x == ("__debug__" : Str)) = false := by decide) (hs : starEach [e] X.env = (false, eval e X.env) :: starEach [] X.env := by rfl) (hpl : (backTo pos (starEach [] X.env)).any (·.1) = false := by rfl) :
    QS X N (.Raise (some (.Call (.Name x p) [e] [] pos)) none pos2) (sRaise c f m) := by
  obtain ⟨t, p', q⟩ := he
  obtain ⟨fI, fd, ps, h1, h2, h3, h4⟩ := ec.ex
  refine ⟨_, ps_raise hc tk (pmk_oex ec.T h1 h2 h3 (hr.r.mono hk) h4 .nil pass0 hg ec.mC (pa_cons p' pa_nil hs) hdb hs hpl), ?_⟩
  have := rs_raise (c := c) (f := f) hp hcl q
  rw [← ag.K] at this
  exact this
end Mi
set_option maxHeartbeats 4000000
namespace Mi
open PySem PySem.Spec PyProof.Rows L2 RZ Ov PpSet
open LamX (CodeO Tabs TabS)
/-! ### defs that may raise -/
theorem takes_cx {P : Program} {w : World} {K : PySem.W.Frag} {mg : Str → Option Value} {base : Heap} {N : List Str} {qual : Str} {scope : Scope} {f : Addr} {cdv : Value} {A : Around} {outer : List PySem.Env} {s : Shared} {H : Hp} {E : XK} :
    Takes (cxOf (L2.CX P w) P w K mg base N qual scope f cdv A outer s H E) (fun cls d _ H' => E cls d H') := takes_of rfl rfl rfl rfl
/-- the body of a def that may raise -/
def BodyX (P : Program) (w : World) (K : PySem.W.Frag) (mg : Str → Option Value) (base : Heap) (k : Nat) (qual : Str) (st : Stmt) (f : Addr) (N : List Str) (sp : Sp) : Prop :=
  ∀ (cdv : Value) (A : Around) (outer : List PySem.Env) (s : Shared) (H : Hp) (vs : List V) (Q : VK) (E : XK),
    Rm k (A.deeper (envOfC qual (defScope st) s.heap.objs.size f cdv)) → sp vs H Q E →
    ∃ t, PSs (cxOf (L2.CX P w) P w K mg base N qual (defScope st) f cdv A outer s H E) (defBody st) t ∧
      t { nx := fun _ H' => Q .non H', rt := Q } (L2.start N vs) H
theorem fnG_mkX {P : Program} {w : World} {K : PySem.W.Frag} {mg : Str → Option Value} {base : Heap} {k : Nat} {sp : Sp} {N ps : List Str} {st : Stmt} {f : Addr} {fd : FuncData} {x qual : Str} (F : L2.Fun K x qual st f fd) (S : FnScope N ps (defScope st)) (len : ∀ vs H Q E, sp vs H Q E → vs.length = ps.length)
    (hbody : BodyX P w K mg base k qual st f N sp) : FnG P w K mg base (L2.CX P w) (k + 1) f fd ps sp := by
  obtain ⟨oc, od, kV, doc, pm, an, cdv, ct, osl, rfl, lk, hcd⟩ := F.ex
  exact fnG_of lk hcd S len fun A outer s H vs Q E hr hsp => hbody cdv A outer s H vs Q E hr hsp
section
variable {C : Ct} {Z H Z' H' Z1 H1 : Hp} {F F' G Fv F1 : List Addr} {σ σ1 : L2.St}
/-- a body keeps its mirror's promise -/
theorem body_MX {P : Program} {w : World} {K : PySem.W.Frag} {mg : Str → Option Value} {base : Heap} {k : Nat} {qual : Str} {st : Stmt} {f : Addr} {Ns : List Str} {io : List Bool} {cls : String → Option Addr} {m : MS} {n : Nat}
    (hn : Ns.length = io.length + n)
    (h : ∀ (cdv : Value) (A : Around) (outer : List PySem.Env) (s : Shared) (H : Hp) (E : XK), Rm k (A.deeper (envOfC qual (defScope st) s.heap.objs.size f cdv)) →
      ∃ t, PSs (cxOf (L2.CX P w) P w K mg base Ns qual (defScope st) f cdv A outer s H E) (defBody st) t ∧ RefS ⟨⟨K, cls, P, w, Ω⟩, some fun c d _ H' => E c d H', pinOf io 0⟩ t m) :
    BodyX P w K mg base k qual st f Ns (spM ⟨K, cls, P, w, Ω⟩ true io (fnOf n io m)) := by
  intro cdv A outer s H vs Q E hr hs
  obtain ⟨t, ht, hm⟩ := h cdv A outer s H E hr
  refine ⟨t, ht, ?_⟩
  obtain ⟨ds, Z, F, hl, rl, o, hf⟩ := hs
  have hst : L2.start Ns vs = vs.map some ++ List.replicate n none := by
    unfold L2.start
    rw [hn, hl, Nat.add_sub_cancel_left]
  rw [hst]
  refine hm (ds.map some ++ List.replicate n none) _ Z H F _ o (RdE.ofL rl) ?_
  have fin : ∀ {env : Env} {σ' : L2.St} {Z' H' : Hp} {F' : List Addr} {ios : List D}, Pin (pinOf io 0) (vs.map some ++ List.replicate n none) σ' → RdE ⟨K, cls, P, w, Ω⟩ Z' H' env σ' F' → allS (pick io env) = some ios →
      ∃ F2, F2.Sublist F' ∧ RdL ⟨K, cls, P, w, Ω⟩ Z' H' ios (pick io vs) F2 := by
    intro env σ' Z' H' F' ios p r e
    have le : env.length = vs.length + n := by rw [r.length, p.1]; simp
    have l1 : io.length ≤ env.length := by rw [le]; omega
    refine RdE.pick r e l1 ?_ hl
    have := pick_pin (io := io) (vs := vs) (σ' := σ') (k := 0) (pre := []) (post := List.replicate n none) hl rfl (fun i hi => by simpa using p.2 i hi) (by rw [← r.length]; omega)
    simpa using this
  unfold fnOf at hf
  cases q : m (ds.map some ++ List.replicate n none) with
  | no => rw [q] at hf; exact hf.elim
  | ex x env =>
    rw [q] at hf
    cases e : allS (pick io env) with
    | none => simp only [e] at hf
    | some ios =>
      simp only [e] at hf
      intro σ' a Ca Z' H' F' us p x r hc ha hu
      obtain ⟨F2, s2, r2⟩ := fin p r e
      exact hf.2 a Ca Z' H' F2 us (x.sub (s2.nodup x.ok.nd) fun a ha => s2.mem ha) hc ha hu r2
  | ok fl env =>
    rw [q] at hf
    cases fl with
    | bk => exact hf.elim
    | ct => exact hf.elim
    | nx =>
      intro σ' Z' H' F' p x r
      cases e : allS (pick io env) with
      | none => simp only [e] at hf
      | some ios =>
        simp only [e] at hf
        obtain ⟨F2, s2, r2⟩ := fin p r e
        exact hf .non Z' H' [] F2 (x.sub (s2.nodup x.ok.nd) fun a ha => s2.mem ha) rd_non r2
    | rt d =>
      intro σ' v Z' H' Fv F' p x rv r
      cases e : allS (pick io env) with
      | none => simp only [e] at hf
      | some ios =>
        simp only [e] at hf
        obtain ⟨F2, s2, r2⟩ := fin p r e
        refine hf v Z' H' Fv F2 (x.sub (List.nodup_append.mpr ⟨nodup_left x.ok.nd, s2.nodup (nodup_right x.ok.nd), fun a ha b hb e => ?_⟩) fun a ha => ?_) rv r2
        · subst e
          exact x.ok.disj a ha (s2.mem hb)
        · rcases List.mem_append.mp ha with z | z
          · exact List.mem_append_left _ z
          · exact List.mem_append_right _ (s2.mem z)
end
end Mi
set_option maxHeartbeats 4000000
namespace Mi
open PySem PySem.Spec PyProof.Rows L2 RZ Ov PpSet
open LamX (CodeO Tabs TabS)
/-! ### try: an error that was caught becomes a value -/
theorem exK_ok {P : Program} {w : World} {H : Hp} {h : Heap} {a c : Addr} {d : Option Addr} {o : Obj} {xs : Array Value} (e : h.get? a = some o) (z : Zc (.ref c) d o) (f : o.data = .fields xs) : ObjOk P w H h a (ExK a c d) :=
  ⟨⟨o, xs, e, z, f⟩, ⟨o, e⟩, fun h1 h2 ⟨o2, xs2, e2, r⟩ k => ⟨o2, xs2, k _ e2, r⟩⟩
theorem exK_at {P : Program} {w : World} {H : Hp} {h : Heap} {a c : Addr} {d : Option Addr} (ok : HOk P w H h) (e : H a = some (ExK a c d)) : ∃ (o : Obj) (xs : Array Value), h.get? a = some o ∧ Zc (.ref c) d o ∧ o.data = .fields xs := (ok a _ e).1
/-- an error has come to the try: it is noted, no longer in flight -/
structure Land (X : Cx) (pins : List (Addr × Obj)) (a : Addr) (cls : Value) (d : Option Addr) (σ : L2.St) (H : Hp) (s : Shared) : Prop where
  ex : ∃ (B : Heap) (s0 : Shared), Inv X pins σ H s0 ∧ (∀ b o, s0.heap.get? b = some o → b ∉ frs X.stack → B.get? b = some o) ∧ s0.heap.UpToSlots s.heap ∧ HandSPX.FlyingZ B X.stack a (Zc cls d) s.heap ∧ H a = none ∧ s.os = s0.os ∧ AllBare s.gens
section
variable {X : Cx} {pins : List (Addr × Obj)} {a : Addr} {cls : Value} {d : Option Addr} {σ : L2.St} {H : Hp} {s : Shared}
theorem Land.inv (l : Land X pins a cls d σ H s) : Inv X pins σ H s := by
  obtain ⟨B, s0, I, nb, up, fl, na, os, ag⟩ := l.ex
  exact I.landed nb fl.1 up os ag
/-- the error's object is no frame's, and was not there ahead of the try -/
theorem Land.obj (l : Land X pins a cls d σ H s) : ∃ (o : Obj) (xs : Array Value), s.heap.get? a = some o ∧ Zc cls d o ∧ o.data = .fields xs ∧ a ∉ frs X.stack := by
  obtain ⟨B, s0, I, nb, up, fl, na, os, ag⟩ := l.ex
  obtain ⟨o, xs, e, z, f⟩ := fl.there
  refine ⟨o, xs, e, z, f, fun hm => ?_⟩
  obtain ⟨_, o2, e2, n2⟩ := fl.2.2.1.mem hm
  exact n2 xs (by rw [e] at e2; cases e2; exact f)
/-- from now on it is known -/
theorem Land.known {c : Addr} (l : Land X pins a (.ref c) d σ H s) : Inv X pins σ (upd H a (ExK a c d)) s := by
  obtain ⟨o, xs, e, z, f, nfr⟩ := l.obj
  obtain ⟨B, s0, I, nb, up, fl, na, os, ag⟩ := l.ex
  have new : s0.heap.get? a = none := by
    cases q : s0.heap.get? a with
    | none => rfl
    | some o2 => exact absurd (nb a o2 q nfr) (by rw [fl.2.1]; simp)
  have ne : ∀ b o2, s0.heap.get? b = some o2 → b ≠ a := fun b o2 q z => by rw [z, new] at q; cases q
  have sl : ∀ b ∈ frs X.stack, ∀ o2, s0.heap.get? b = some o2 → ∃ sl, s.heap.get? b = some { o2 with slots := sl } := fun b hb o2 q => by
    obtain ⟨_, o3, e3, n3⟩ := I.stack.mem hb
    exact up b o2 q (by rw [q] at e3; cases e3; exact n3)
  refine I.call' (ch := []) os ⟨?_, fun b o2 q _ hb _ => sl b hb o2 q, ?_, ?_, ?_, ?_, ?_⟩ ?_ ag fun b hb => absurd hb List.not_mem_nil
  · exact fun b o2 q _ hb _ => fl.1 b o2 (nb b o2 q hb)
  · intro b o2 q n _
    rw [upd_ne (ne b o2 q)]; exact n
  · intro b o2 q _
    by_cases hb : b ∈ frs X.stack
    · obtain ⟨x, y⟩ := sl b hb o2 q
      exact ⟨_, y⟩
    · exact ⟨o2, fl.1 b o2 (nb b o2 q hb)⟩
  · intro b us q
    rw [upd_ne (ne_of_none q na)]; exact q
  · intro b u us q
    rw [upd_ne (ne_of_none q na)]; exact q
  · intro b ps q
    exact ⟨#[], by rw [upd_ne (ne_of_none q na), q]; simp⟩
  · intro b u q
    by_cases hb : b = a
    · subst hb
      rw [upd_same] at q
      cases q
      exact exK_ok e z f
    · rw [upd_ne hb] at q
      have := (I.inGround nb).kept fl.1
      exact (this b u q).stay (fun _ _ _ r => r) (fun b2 r => by rw [upd_ne (ne_of_none r na)]; exact r) fun b2 us r => by rw [upd_ne (ne_of_none r na)]; exact r
/-- the context of a suite behind except -/
abbrev suT (X : Cx) (a : Addr) : Cx := { X with A := X.A.mark (some (.ref a)), calm := false, xe := fun _ _ => False }
theorem suT_ok (ok : X.Ok) : (suT X a).Ok := { ok with hd := fun z => absurd z Bool.false_ne_true }
theorem suT_inv (I : Inv X pins σ H s) : Inv (suT X a) pins σ H s := { I with ok := suT_ok I.ok }
theorem suT_out (I : Inv (suT X a) pins σ H s) (ok : X.Ok) : Inv X pins σ H s := { I with ok := ok }
end
/-- the classes of errors: each derives from OverlapError, and that from ValueError -/
def isSub (c t : String) : Bool := c == t || t == "OverlapError" || t == "ValueError"
/-- one clause: the class, the name's place, the suite -/
abbrev Hnd := String × Option Nat × MS
def hdF (L : List String) : List Hnd → Exn → Env → R Fl
  | [], x, e => .ex x e
  | (t, nm, ms) :: r, x, e => if L.contains x.c then (if isSub x.c t then (match nm with
      | some i => (ms (e.set i (some (.exn x.c x.fs)))).bind fun fl e2 => .ok fl (e2.set i none)
      | none => ms e) else hdF L r x e) else .no
def sTry (L : List String) (mb : MS) (hs : List Hnd) : MS := fun env => match mb env with
  | .ok fl e => .ok fl e
  | .ex x e => hdF L hs x e
  | .no => .no
/-- the clauses hs do as ms says -/
def QH (X : Cx) (N : Cn) (L : List String) (hs : List ExceptHandler) (ms : List Hnd) : Prop :=
  ∀ (pins : List (Addr × Obj)) (a Ca : Addr) (d : Option Addr) (σ : L2.St) (H : Hp) (s : Shared) (D0 : Ends) (c : String) (fs : List (String × D)) (us : List (Str × V)) (env : Env) (Z : Hp) (F : List Addr),
    Land X pins a (.ref Ca) d σ H s → N.C.cls c = some Ca → XdAt H d us → RdF N.C Z H fs us [] → Ok N.C.T Z H F → RdE N.C Z H env σ F → Wp N σ Z H F (hdF L ms ⟨c, fs⟩ env) (Aft N σ Z H F D0) →
    wpAny (model X.prog X.w) X.A (handleBy (.ref a) X.env hs) (SP X pins D0) X.xe s
theorem qh_nil {X : Cx} {N : Cn} {L : List String} (hp : N.px = none := by rfl) : QH X N L [] [] := by
  intro pins a Ca d σ H s D0 c fs us env Z F l hc hx hf o r w
  have w : Wish N σ Z H F ⟨c, fs⟩ env := w
  unfold Wish at w
  rw [hp] at w
  exact w.elim
theorem Ok.addZ {Ω : List (Addr × Str)} {Z H : Hp} {F : List Addr} {b : Addr} {o : HO} (k : Ok Ω Z H F) (e : H b = some o) (hb : b ∉ F) (n : ¬ NodeO b o) (nt : ∀ ps, o ≠ .tbl ps) : Ext Ω Z H F (upd Z b o) H F := by
  have zb : ∀ u, Z b = some u → u = o := fun u z => Option.some.inj ((k.zh b u z).symm.trans e)
  refine ⟨fun x u z => ?_, ⟨fun x u z => ?_, fun x hx => ?_, k.nd, k.live, k.kd, fun x ps z => ?_, k.tb⟩, fun _ _ z _ _ => z, fun x hx => .inl hx, fun x hx => ?_⟩
  · by_cases q : x = b
    · subst q; rw [upd_same, zb u z]
    · rw [upd_ne q]; exact z
  · by_cases q : x = b
    · subst q; rw [upd_same] at z; rw [← z]; exact e
    · rw [upd_ne q] at z; exact k.zh x u z
  · rw [upd_ne (fun z : x = b => hb (z ▸ hx))]; exact k.zf x hx
  · by_cases q : x = b
    · subst q; rw [upd_same] at z; exact nt ps (Option.some.inj z)
    · rw [upd_ne q] at z; exact k.zt x ps z
  · by_cases q : x = b
    · subst q
      exact .inr (.inr fun u z m => by rw [e] at z; cases z; exact n m)
    · rw [upd_ne q] at hx; exact .inl hx
theorem exK_node {a c : Addr} {d : Option Addr} : ∀ ps, ExK a c d ≠ .tbl ps := fun ps z => by
  have z2 : HO.ext _ = HO.tbl ps := z
  cases z2
/-- the error as a value -/
theorem exn_rd {C : Ct} {Z H : Hp} {F : List Addr} {env : Env} {σ : L2.St} {a Ca : Addr} {d : Option Addr} {c : String} {fs : List (String × D)} {us : List (Str × V)} (hc : C.cls c = some Ca) (hx : XdAt H d us) (hf : RdF C Z H fs us []) (o : Ok C.T Z H F) (r : RdE C Z H env σ F) (na : H a = none) :
    ∃ Z', Ext C.T Z H F Z' (upd H a (ExK a Ca d)) F ∧ RdV C Z' (upd H a (ExK a Ca d)) (.exn c fs) (.ref a) [] ∧ RdE C Z' (upd H a (ExK a Ca d)) env σ F := by
  have x1 : Ext C.T Z H F (upd Z a (ExK a Ca d)) (upd H a (ExK a Ca d)) F := Ext.newZ o na exK_node
  have r1 := r.same (H' := upd H a (ExK a Ca d)) x1.zz (same_new na)
  have hf1 : RdF C (upd Z a (ExK a Ca d)) (upd H a (ExK a Ca d)) fs us [] := RdF.mono x1.zz fs us [] (fun b hb => absurd hb List.not_mem_nil) hf
  cases d with
  | none =>
    refine ⟨_, x1, ?_, r1⟩
    rw [RdV]
    exact ⟨rfl, a, Ca, none, us, rfl, hc, upd_same, hx, hf1⟩
  | some b =>
    have hx : H b = some (.xd us) := hx
    have hx1 : upd H a (ExK a Ca (some b)) b = some (.xd us) := by rw [upd_ne (ne_of_none hx na)]; exact hx
    have x2 := x1.ok.addZ (o := .xd us) hx1 (fun hb => by
      obtain ⟨o2, e2, n2⟩ := RdE.nk r1 b hb
      rw [hx1] at e2
      cases e2
      exact n2.xd us rfl) (fun n => n.xd us rfl) (fun ps z => by cases z)
    refine ⟨_, x1.trans x2, ?_, r1.same x2.zz (Same.refl _)⟩
    rw [RdV]
    refine ⟨rfl, a, Ca, some b, us, rfl, hc, x2.zz _ _ upd_same, upd_same, RdF.mono x2.zz fs us [] (fun b hb => absurd hb List.not_mem_nil) hf1⟩
theorem RdE.any {C : Ct} {Z H : Hp} {x : Option V} : ∀ {env : Env} {σ : L2.St} {F : List Addr} {i : Nat}, RdE C Z H (env.set i none) σ F → RdE C Z H (env.set i none) (σ.set i x) F
  | [], σ, F, i, h => by
    have h : RdE C Z H [] σ F := by simpa using h
    rw [h.1]
    exact ⟨by simp, h.2⟩
  | d :: env, σ, F, 0, h => by
    obtain ⟨y, s, rfl, h⟩ := h
    exact ⟨x, s, rfl, h⟩
  | none :: env, σ, F, i + 1, h => by
    obtain ⟨y, s, rfl, h⟩ := h
    exact ⟨y, _, rfl, RdE.any (i := i) h⟩
  | some d :: env, σ, F, i + 1, h => by
    obtain ⟨v, s, F1, F2, rfl, rfl, h1, h⟩ := h
    exact ⟨v, _, F1, F2, rfl, rfl, h1, RdE.any (i := i) h⟩
section
variable {X : Cx} {N : Cn} {pins : List (Addr × Obj)} {a Ca : Addr} {cls : Value} {d : Option Addr} {σ : L2.St} {H : Hp} {s : Shared} {L : List String} {x n : Str} {i : Nat} {t : String} {cv : Value} {np pos pos' : Pos} {b₀ : Stmt} {suite body : List Stmt} {ms mb : MS} {rest : List ExceptHandler} {hs : List Hnd}
theorem Land.again {M : Model} {A : Around} {E : Value → Shared → Prop} {Q : Unit → Shared → Prop} (l : Land X pins a cls d σ H s) (h : ∀ h', Land X pins a cls d σ H { s with heap := h' } → Q () { s with heap := h' }) : wpAny M A (setFlight (.ref a) none) Q E s := by
  obtain ⟨B, s0, I, nb, up, fl, na, os, ag⟩ := l.ex
  exact HandSPX.lands_againZ fl fun h' f u => h h' ⟨B, s0, I, nb, up.trans u, f, na, os, ag⟩
/-- the class that the clause names is asked -/
theorem Land.asked {R : Result → Shared → Prop} {b : Bool} (l : Land X pins a (.ref Ca) d σ H s) (hc : Names X x cv) (hx : PySem.W.exmOne X.K (.ref Ca) cv = some b) (h : R (.ok (if b then .brk else .next)) s) :
    codeAny (model X.prog X.w) (X.A.mark (some (.ref a))) (.handlers (.ref a) [.ExceptHandler (some (.Name x np)) none [] pos] X.env) R s := by
  obtain ⟨o, xs, e, z, f, nfr⟩ := l.obj
  have I := suT_inv (a := a) l.inv
  have ty : PySem.W.Looks (model X.prog X.w) s.heap (typeOf (.ref a)) (.ref Ca) := fun A Q E s2 k q => wpAny_typeOf_ref (k _ _ e) (by rw [z.1]; exact q)
  have ask := PySem.W.exm_one (M := model X.prog X.w) l.inv.kIn ty hx
  refine codeAny_handlers_test ?_
  have go : wpAny (model X.prog X.w) (X.A.mark (some (.ref a))) (excMatches (.ref a) cv) (fun b s₂ => R (.ok (if b then .brk else .next)) s₂) (notedBy (model X.prog X.w) (X.A.mark (some (.ref a))) X.env fun x s₂ => R (.error x) s₂) s := ask.here h
  obtain ⟨g, db, m | ⟨m, v, nn⟩⟩ := hc
  · exact ld_glob (X := suT X a) I g m go db
  · exact ld_blt (X := suT X a) I g m v go nn db
theorem qh_as (hp : N.px = none) (hN : X.N.Nodup) (hi : X.N[i]? = some n) (hln : X.env.kindOf n = some .local) (hc : Names X x cv) (hx : ∀ c Ca, L.contains c = true → N.C.cls c = some Ca → PySem.W.exmOne X.K (.ref Ca) cv = some (isSub c t))
    (hsu : ∀ a, QSs (suT X a) N (b₀ :: suite) ms) (hr : QH X N L rest hs) (hpin : gOk [i] N.pin = true := by rfl) : QH X N L (.ExceptHandler (some (.Name x np)) (some n) (b₀ :: suite) pos' :: rest) ((t, some i, ms) :: hs) := by
  intro pins a Ca d σ H s D0 c fs us env Z F l hcl hxd hrf o r w
  rw [hdF] at w
  by_cases hl : L.contains c = true
  case neg => rw [if_neg hl] at w; exact w.elim
  rw [if_pos hl] at w
  refine wpAny_handleBy_cons (l.asked hc (hx c Ca hl hcl) ?_) (fun q => by cases q)
  by_cases hb : isSub c t = true
  case neg =>
    rw [if_neg hb] at w
    rw [Bool.not_eq_true] at hb
    simp only [hb, Bool.false_eq_true, if_false]
    exact hr pins a Ca d σ H s D0 c fs us env Z F l hcl hxd hrf o r w
  rw [if_pos hb] at w
  simp only [hb, if_true]
  have na : H a = none := by obtain ⟨B, s0, I, nb, up, fl, na, os, ag⟩ := l.ex; exact na
  have ok := l.inv.ok
  refine codeAny_handlers_suite_as (l.again fun h4 l4 => ?_)
  refine store_ok (X := suT X a) (v := .ref a) (suT_inv l4.known) hN hi (.inl hln) rfl (fun s5 I5 => ?_) (.inr hln)
  obtain ⟨Z1, x1, rv, r1⟩ := exn_rd hcl hxd hrf o r na
  obtain ⟨F2, g1, g2, g3⟩ := rd_set (i := i) (Fv := []) (by simpa using x1.ok) r1 rv
  have x2 : Ext N.C.T Z H F Z1 (upd H a (ExK a Ca d)) F2 := x1.sub g1 fun b hb => by simpa using g2 b hb
  obtain ⟨tt, ht, hm⟩ := hsu a
  have pk : ∀ j ∈ N.pin, j ≠ i := fun j hj => by
    have := List.all_eq_true.mp hpin j hj
    simpa using this
  have p1 : Pin N.pin σ (σ.set i (some (.ref a))) := ⟨List.length_set .., fun j hj => by rw [List.getElem?_set_ne (Ne.symm (pk j hj))]⟩
  have back : ∀ {σ3 : L2.St} {Z3 H3 : Hp} {F3 : List Addr} {e3 : Env}, Pin N.pin (σ.set i (some (.ref a))) σ3 → RdE N.C Z3 H3 e3 σ3 F3 → Pin N.pin σ (σ3.set i none) ∧ ∃ F4, F4.Sublist F3 ∧ RdE N.C Z3 H3 (e3.set i none) (σ3.set i none) F4 := by
    intro σ3 Z3 H3 F3 e3 p r3
    obtain ⟨F4, k1, k2⟩ := r3.drop i
    refine ⟨⟨by rw [List.length_set, p.1, List.length_set], fun j hj => ?_⟩, F4, k1, k2.any⟩
    rw [List.getElem?_set_ne (Ne.symm (pk j hj)), (p1.trans p).2 j hj]
  have hw : Wp N (σ.set i (some (.ref a))) Z1 (upd H a (ExK a Ca d)) F2 (ms (env.set i (some (.exn c fs)))) (Aft N (σ.set i (some (.ref a))) Z1 (upd H a (ExK a Ca d)) F2
      { nx := fun σ' H' => D0.nx (σ'.set i none) H', rt := D0.rt, bk := fun σ' H' => D0.bk (σ'.set i none) H', ct := fun σ' H' => D0.ct (σ'.set i none) H' }) := by
    cases q : ms (env.set i (some (.exn c fs))) with
    | no => simp only [q] at w; exact w.elim
    | ex y e2 =>
      simp only [q] at w
      have w : Wish N σ Z H F y e2 := w
      unfold Wish at w
      rw [hp] at w
      exact w.elim
    | ok fl e2 =>
      simp only [q] at w
      have w : Aft N σ Z H F D0 fl (e2.set i none) := w
      show Aft N _ _ _ _ _ fl e2
      cases fl with
      | nx =>
        intro σ3 Z3 H3 F3 p x r3
        obtain ⟨q1, F4, q2, q3⟩ := back p r3
        exact w _ Z3 H3 F4 q1 ((x2.trans x).sub (q2.nodup x.ok.nd) fun b hb => q2.mem hb) q3
      | bk =>
        intro σ3 Z3 H3 F3 p x r3
        obtain ⟨q1, F4, q2, q3⟩ := back p r3
        exact w _ Z3 H3 F4 q1 ((x2.trans x).sub (q2.nodup x.ok.nd) fun b hb => q2.mem hb) q3
      | ct =>
        intro σ3 Z3 H3 F3 p x r3
        obtain ⟨q1, F4, q2, q3⟩ := back p r3
        exact w _ Z3 H3 F4 q1 ((x2.trans x).sub (q2.nodup x.ok.nd) fun b hb => q2.mem hb) q3
      | rt dd =>
        intro σ3 v Z3 H3 Fv F3 p x rv3 r3
        obtain ⟨q1, F4, q2, q3⟩ := back p r3
        refine w _ v Z3 H3 Fv F4 q1 ((x2.trans x).sub (List.nodup_append.mpr ⟨nodup_left x.ok.nd, q2.nodup (nodup_right x.ok.nd), fun b hb b2 hb2 e => ?_⟩) fun b hb => ?_) rv3 q3
        · subst e
          exact x.ok.disj b hb (q2.mem hb2)
        · rcases List.mem_append.mp hb with z | z
          · exact List.mem_append_left _ z
          · exact List.mem_append_right _ (q2.mem z)
  refine wpAny_mono (ht.run pins s5 _ _ _ I5 (hm _ _ Z1 _ F2 _ x2.ok g3 hw)) (fun fl s6 hsp => ?_) fun _ _ z => False.elim z
  cases fl with
  | ret u =>
    obtain ⟨v6, σ6, H6, I6, r6, q6⟩ := hsp
    exact gone_ok (suT_out I6 ok) hN hi hln fun s7 I7 => ⟨v6, _, H6, I7, r6, q6⟩
  | _ =>
    obtain ⟨σ6, H6, I6, q6⟩ := hsp
    exact gone_ok (suT_out I6 ok) hN hi hln fun s7 I7 => ⟨_, H6, I7, q6⟩
/-- a clause without a name -/
theorem qh_only (hp : N.px = none) (hc : Names X x cv) (hx : ∀ c Ca, L.contains c = true → N.C.cls c = some Ca → PySem.W.exmOne X.K (.ref Ca) cv = some (isSub c t))
    (hsu : ∀ a, QSs (suT X a) N (b₀ :: suite) ms) (hr : QH X N L rest hs) : QH X N L (.ExceptHandler (some (.Name x np)) none (b₀ :: suite) pos' :: rest) ((t, none, ms) :: hs) := by
  intro pins a Ca d σ H s D0 c fs us env Z F l hcl hxd hrf o r w
  rw [hdF] at w
  by_cases hl : L.contains c = true
  case neg => rw [if_neg hl] at w; exact w.elim
  rw [if_pos hl] at w
  refine wpAny_handleBy_cons (l.asked hc (hx c Ca hl hcl) ?_) (fun q => by cases q)
  by_cases hb : isSub c t = true
  case neg =>
    rw [if_neg hb] at w
    rw [Bool.not_eq_true] at hb
    simp only [hb, Bool.false_eq_true, if_false]
    exact hr pins a Ca d σ H s D0 c fs us env Z F l hcl hxd hrf o r w
  rw [if_pos hb] at w
  simp only [hb, if_true]
  have ok := l.inv.ok
  refine codeAny_handlers_suite (l.again fun h4 l4 => ?_)
  obtain ⟨tt, ht, hm⟩ := hsu a
  refine wpAny_mono (ht.run pins _ σ H D0 (suT_inv l4.inv) (hm env σ Z H F D0 o r w)) (fun fl s6 hsp => ?_) fun _ _ z => False.elim z
  cases fl with
  | ret u =>
    obtain ⟨v6, σ6, H6, I6, r6, q6⟩ := hsp
    exact ⟨v6, σ6, H6, suT_out I6 ok, r6, q6⟩
  | _ =>
    obtain ⟨σ6, H6, I6, q6⟩ := hsp
    exact ⟨σ6, H6, suT_out I6 ok, q6⟩
/-- the whole statement -/
theorem qs_try {h₀ : ExceptHandler} (hs1 : X.stack = X.env :: X.outer) (hf : X.env.frame = some X.env.locals)
    (hb : ∀ (W : WX) (pn : List (Addr × Obj)) (xe : Value → Shared → Prop), Takes (X.tr pn xe) W → PassesOwn (model X.prog X.w) X.A X.env xe → QSs (X.tr pn xe) ⟨N.C, some W, N.pin⟩ body mb)
    (hh : QH X N L (h₀ :: rest) hs) : QS X N (.Try body (h₀ :: rest) [] [] pos) (sTry L mb hs) := by
  refine ⟨fun D0 σ H => ∃ env Z F, Ok N.C.T Z H F ∧ RdE N.C Z H env σ F ∧ Wp N σ Z H F (sTry L mb hs env) (Aft N σ Z H F D0), ⟨?_⟩, fun env σ Z H F D0 o r w => ⟨env, Z, F, o, r, w⟩⟩
  rintro pins s σ H D0 I ⟨env, Z, F, o, r, w⟩
  have ok := I.ok
  have fr : X.A.frames = some (X.env :: X.outer) := by rw [ok.frames, hs1]
  refine wpAny_Try_except ?_
  let W : WX := fun cls d σ' H' => ∃ (c : String) (fs : List (String × D)) (e2 : Env) (Z2 : Hp) (F2 : List Addr) (us : List (Str × V)) (Ca : Addr), cls = .ref Ca ∧ N.C.cls c = some Ca ∧ XdAt H' d us ∧ RdF N.C Z2 H' fs us [] ∧ Ok N.C.T Z2 H' F2 ∧ RdE N.C Z2 H' e2 σ' F2 ∧
    Wp N σ' Z2 H' F2 (hdF L hs ⟨c, fs⟩ e2) (Aft N σ' Z2 H' F2 D0)
  have tk : Takes (X.tr (X.pn ++ pins) (fun e s₁ => wpAny (model X.prog X.w) X.A (noteFrame e X.env) (fun _ s₂ => wpAny (model X.prog X.w) X.A (setFlight e none) (fun _ s₃ => wpAny (model X.prog X.w) X.A (handleBy e X.env (h₀ :: rest)) (SP X pins D0) X.xe s₃) X.xe s₂) X.xe s₁)) W := by
    rintro u s' ⟨b, B, s0, pins2, σ2, H2, cls, dd, rfl, I2, nb, up, sky, na, os, ag, c, fs, e2, Z2, F2, us, Cb, rfl, k1, k2, k3, k4, k5, k6⟩
    have I3 : Inv X pins σ2 H2 s0 := I2.ofTry ok
    have sky2 : Sky B (X.env :: X.outer) b (Zc (.ref Cb) dd) X.env.locals s'.heap := by rw [← hs1]; exact sky
    refine Sky.land Zc.steady fr hf sky2 fun h3 f3 u3 => ?_
    have l : Land X pins b (.ref Cb) dd σ2 H2 { s' with heap := h3 } := ⟨B, s0, I3, nb, up.trans u3, by rw [hs1]; exact f3, na, os, ag⟩
    exact hh pins b Cb dd σ2 H2 _ D0 c fs us e2 Z2 F2 l k1 k2 k3 k4 k5 k6
  obtain ⟨t, ht, hm⟩ := hb W (X.pn ++ pins) _ tk PassesOwn.looking
  refine wpAny_mono (ht.run [] s σ H D0 (I.toTry _) (hm env σ Z H F D0 o r ?_)) (fun fl s1 hsp => ?_) fun _ _ z => z
  · unfold sTry at w
    cases q : mb env with
    | no => simp only [q] at w; exact w.elim
    | ok fl e2 => simp only [q] at w; exact w
    | ex y e2 =>
      simp only [q] at w
      intro σ2 b Cb Z2 H2 F2 us p x r2 hc hb2 hu
      exact ⟨y.c, y.fs, e2, Z2, F2, us, Cb, rfl, hc, hb2, hu, x.ok, r2, Wp.mono w p x fun fl e3 z => z.trans p x⟩
  · cases fl with
    | next =>
      obtain ⟨σ2, H2, I2, q⟩ := hsp
      exact wpAny_execs_nil ⟨σ2, H2, I2.ofTry ok, q⟩
    | ret u =>
      obtain ⟨v, σ2, H2, I2, rv, q⟩ := hsp
      exact ⟨v, σ2, H2, I2.ofTry ok, rv, q⟩
    | _ =>
      obtain ⟨σ2, H2, I2, q⟩ := hsp
      exact ⟨σ2, H2, I2.ofTry ok, q⟩
end
end Mi
set_option maxHeartbeats 4000000
namespace Mi
open PySem PySem.Spec PyProof.Rows L2 RZ Ov PpSet
open LamX (CodeO Tabs TabS)
/-! ### parts that raise nothing, where errors may be raised -/
def nxR {α : Type} : R α → R α
  | .ok a e => .ok a e
  | _ => .no
def calmE (m : ME) : ME := fun env => nxR (m env)
def calmB (m : MB) : MB := fun env => nxR (m env)
def calmS (m : MS) : MS := fun env => nxR (m env)
section
variable {X : Cx} {N : Cn} {st : Bool} {e : Expr} {s : Stmt} {ss : List Stmt} {es : List Expr} {m : ME} {mb : MB} {ms : MS} {ml : ML}
theorem Wp.cl {α : Type} {σ : L2.St} {Z H : Hp} {F : List Addr} {r : R α} {k : α → Env → Prop} (w : Wp N σ Z H F (nxR r) k) : Wp N.calm σ Z H F r k := by
  cases r with
  | ok a e => exact w
  | ex x e => exact w.elim
  | no => exact w
theorem QE.cl (h : QE X N.calm st e m) : QE X N st e (calmE m) := let ⟨t, p, q⟩ := h; ⟨t, p, fun env σ Z H F Q o r w => q env σ Z H F Q o r (Wp.cl (N := N) w)⟩
theorem QT.cl (h : QT X N.calm st e m) : QT X N st e (calmE m) := let ⟨t, p, q⟩ := h; ⟨t, p, fun env σ Z H F Q o r w => q env σ Z H F Q o r (Wp.cl (N := N) w)⟩
theorem QB.cl (h : QB X N.calm st e mb) : QB X N st e (calmB mb) := let ⟨t, p, q⟩ := h; ⟨t, p, fun env σ Z H F Q o r w => q env σ Z H F Q o r (Wp.cl (N := N) w)⟩
theorem aft_cl {σ : L2.St} {Z H : Hp} {F : List Addr} {D0 : Ends} {fl : Fl} {env : Env} (h : Aft N σ Z H F D0 fl env) : Aft N.calm σ Z H F D0 fl env := by cases fl <;> exact h
theorem QS.cl (h : QS X N.calm s ms) : QS X N s (calmS ms) := let ⟨t, p, q⟩ := h; ⟨t, p, fun env σ Z H F D0 o r w => q env σ Z H F D0 o r ((Wp.cl (N := N) w).mono (Pin.refl _ _) (Ext.refl o) fun _ _ z => aft_cl z)⟩
theorem QSs.cl (h : QSs X N.calm ss ms) : QSs X N ss (calmS ms) := let ⟨t, p, q⟩ := h; ⟨t, p, fun env σ Z H F D0 o r w => q env σ Z H F D0 o r ((Wp.cl (N := N) w).mono (Pin.refl _ _) (Ext.refl o) fun _ _ z => aft_cl z)⟩
theorem Ag.cl (ag : Ag X N) : Ag X N.calm := ⟨ag.K, ag.P, ag.w⟩
end
/-! ### defs that may raise -/
section
variable {P : Program} {w : World} {K : PySem.W.Frag} {mg : Str → Option Value} {base : Heap} {k : Nat} {Ns ps : List Str} {stm : Stmt} {f : Addr} {fd : FuncData} {io : List Bool} {cls : String → Option Addr} {m : MS} {n : Nat} {x : Str} {sp : Sp}
/-- the body of a def that may raise, against its mirror -/
def QBodyX (P : Program) (w : World) (K : PySem.W.Frag) (mg : Str → Option Value) (base : Heap) (cls : String → Option Addr) (Ω : List (Addr × Str)) (k : Nat) (qual : Str) (stm : Stmt) (f : Addr) (Ns : List Str) (io : List Bool) (m : MS) : Prop :=
  ∀ (cdv : Value) (A : Around) (outer : List PySem.Env) (s : Shared) (H : Hp) (E : XK), Rm k (A.deeper (envOfC qual (defScope stm) s.heap.objs.size f cdv)) →
    Takes (cxOf (L2.CX P w) P w K mg base Ns qual (defScope stm) f cdv A outer s H E) (fun c d _ H' => E c d H') → PassesOwn (model P w) (A.deeper (envOfC qual (defScope stm) s.heap.objs.size f cdv)) (envOfC qual (defScope stm) s.heap.objs.size f cdv) (cxOf (L2.CX P w) P w K mg base Ns qual (defScope stm) f cdv A outer s H E).xe →
    QSs (cxOf (L2.CX P w) P w K mg base Ns qual (defScope stm) f cdv A outer s H E) ⟨⟨K, cls, P, w, Ω⟩, some fun c d _ H' => E c d H', pinOf io 0⟩ (defBody stm) m
theorem bodyX_of (hn : Ns.length = io.length + n) (h : QBodyX P w K mg base cls Ω k x stm f Ns io m) : BodyX P w K mg base k x stm f Ns (spM ⟨K, cls, P, w, Ω⟩ true io (fnOf n io m)) :=
  body_MX hn fun cdv A outer s H E hr => h cdv A outer s H E hr takes_cx (passes_of rfl)
theorem calX_M (F : At K mg x stm f fd) (b : Binds K fd ps []) (S : FnScope Ns ps (defScope stm)) (hio : io.length = ps.length) (hn : Ns.length = io.length + n) (h : QBodyX P w K mg base cls Ω k x stm f Ns io m) :
    Cal P w K mg base (L2.CX P w) (k + 1) x ps (spM ⟨K, cls, P, w, Ω⟩ true io (fnOf n io m)) :=
  ⟨f, fd, fnG_mkX F.fn S (spM_len hio) (bodyX_of hn h), F.mgf, F.fn.kp, b, let ⟨oc, od, _, _, _, _, _, _, osl, _, h, _⟩ := F.fn.ex; ⟨oc, od, osl, h⟩⟩
/-- where nothing is to be raised, such a def raises nothing -/
theorem spM_calm {C : Ct} {fn : Fun} {vs : List V} {H : Hp} {Q : VK} {E : XK} (h : spM C false io fn vs H Q E) : spM C true io fn vs H Q E0 := by
  obtain ⟨ds, Z, F, h1, h2, h3, h4⟩ := h
  refine ⟨ds, Z, F, h1, h2, h3, ?_⟩
  cases q : fn ds with
  | ok d ios => rw [q] at h4; exact h4
  | ex x ios => rw [q] at h4; exact absurd h4.1 Bool.false_ne_true
  | no => rw [q] at h4; exact h4
theorem fnG_calm {C : Ct} {fn : Fun} (F : FnG P w K mg base (L2.CX P w) k f fd ps (spM C true io fn)) : FnG P w K mg base CX0 k f fd ps (spM C false io fn) := by
  refine ⟨fun vs H Q E h => F.len vs H Q E0 (spM_calm h), fun A o s H a us vs Q E hr e0 hb rv hs => ?_⟩
  refine codeAny_mono (F.run A o s H a us vs Q E0 hr e0 hb rv (spM_calm hs)) fun r s2 q => ?_
  match r, q with
  | .ok (.ret u), q => exact q
  | .error e, q =>
    obtain ⟨_, _, _, _, _, _, _, _, _, _, _, _, z⟩ := q
    exact z.elim
theorem Cal.calm {C : Ct} {fn : Fun} (c : Cal P w K mg base (L2.CX P w) k x ps (spM C true io fn)) : Cal P w K mg base CX0 k x ps (spM C false io fn) := let ⟨f, fd, F, r⟩ := c.ex; ⟨f, fd, fnG_calm F, r⟩
theorem CalD.calm {C : Ct} {fn : Fun} {us : List V} (c : CalD P w K mg base (L2.CX P w) k x ps us (spM C true io fn)) : CalD P w K mg base CX0 k x ps us (spM C false io fn) := let ⟨f, fd, F, r⟩ := c.ex; ⟨f, fd, fnG_calm F, r⟩
theorem Met.calm {C : Ct} {fn : Fun} {D : Addr} {mn : Str} (c : Met P w K mg base (L2.CX P w) k D mn ps (spM C true io fn)) : Met P w K mg base CX0 k D mn ps (spM C false io fn) := let ⟨f, fd, a, b, F, r⟩ := c.ex; ⟨f, fd, a, b, fnG_calm F, r⟩
theorem Mak.calm {C : Ct} {fn : Fun} {D : Addr} (c : Mak P w K mg base (L2.CX P w) k x D ps (spM C true io fn)) : Mak P w K mg base CX0 k x D ps (spM C false io fn) := let ⟨f, fd, a, F, r⟩ := c.ex; ⟨f, fd, a, fnG_calm F, r⟩
end
/-! ### calls of such -/
def tCx (sp : Sp) (dvs : List V) (W : WX) (t : TA) : TE := fun σ H Q => t σ H fun vs H1 => sp (vs ++ dvs) H1 Q (fun c d H2 => W c d σ H2)
section
variable {X : Cx} {N : Cn} {st : Bool} {k j : Nat} {x : Str} {f : Addr} {fd : FuncData} {ps : List Str} {sp : Sp} {dvs : List V} {ds : List Value} {W : WX} {t : TA} {p pos : Pos} {e : Expr} {es : List Expr} {as : List Arg} {io : List Bool} {fn : Fun}
theorem peX_call (F : FnG X.prog X.w X.K X.mg X.base (L2.CX X.prog X.w) k f fd ps sp) (hr : Rm k X.A) (hg : Gl X x) (hm : X.mg x = some (.ref f)) (hk : PySem.W.keepIn X.K (.ref f) = true) (hb : Binds X.K fd ps ds) (hd : Vals dvs ds) (tk : Takes X W) (ha : PA X (e :: es) t)
    (hdb : (x == ("__debug__" : Str)) = false := by decide) (he : starEach (e :: es) X.env = (false, eval e X.env) :: starEach es X.env := by rfl) (hpl : (backTo pos (starEach es X.env)).any (·.1) = false := by rfl) : PE X (.Call (.Name x p) (e :: es) [] pos) (tCx sp dvs W t) := by
  constructor
  intro pins s σ H Q I h
  apply wpAny_Call_Name_kw
  apply ld_glob I hg hm _ hdb
  apply PySem.W.callWith_K (h₀ := X.base) I.ok.mod.kin hk _ he hpl
  apply thn (ha.run pos pins s σ H _ I h)
  rintro us s1 ⟨vs, H1, I1, r1, q1⟩
  constructor
  · exact I1.kIn
  have r2 := r1.append hd
  apply wpAny_call
  apply codeAny_mono (F.run X.A X.stack s1 H1 ⟨us, []⟩ (us ++ ds) (vs ++ dvs) Q _ hr I1.env0 (hb s1 us I1.kIn (by rw [← r2.length]; exact F.len _ _ _ _ q1)) r2 q1)
  intro r s2 hq
  match r, hq with
  | .error y, hq => exact passAt tk σ pins H1 s1 y s2 I1 hq
  | .ok (.ret u), hq => exact I1.after hq
theorem reX_call {dd : List D} (hd : dd.all flatD = true) (hp : N.px = some W) (h : RefM N st t as) (hio : ioOf as ++ List.replicate dd.length false = io) : RefE N false (tCx (spM N.C true io fn) (dd.map vF) W t) (eCall (fPad dd fn) as) := fun env σ Z H F Q o r w => by
  subst hio
  refine h env σ Z H F _ o r (w.bind.mono (Pin.refl _ _) (Ext.refl o) ?_)
  intro ms env1 k vs Z1 H1 Fv F1 x rm r1 _
  refine spM_pad hd (call_core (E := fun c d H2 => W c d σ H2) ?_ x rm r1 k)
  unfold WE'
  rw [hp]
  exact ⟨rfl, fun _ _ _ z => z⟩
theorem fPad_nil {g : Fun} : fPad [] g = g := by funext as; unfold fPad; rw [List.append_nil]
theorem q_callX (cl : Cal X.prog X.w X.K X.mg X.base (L2.CX X.prog X.w) k x ps (spM N.C true io fn)) (hr : Rm j X.A) (tk : Takes X W) (ha : QM X N st (e :: es) as) (hp : N.px = some W := by rfl) (hio : ioOf as = io := by rfl) (hk : k ≤ j := by decide) (hg : Gl X x := by rfl)
    (hdb : (x == ("__debug__" : Str)) = false := by decide) (he : starEach (e :: es) X.env = (false, eval e X.env) :: starEach es X.env := by rfl) (hpl : (backTo pos (starEach es X.env)).any (·.1) = false := by rfl) :
    QE X N false (.Call (.Name x p) (e :: es) [] pos) (eCall fn as) := by
  obtain ⟨t, p', q⟩ := ha
  obtain ⟨g, fd, F, hm, kp, b, _⟩ := cl.ex
  have := reX_call (dd := []) (fn := fn) rfl hp q (io := io) (by simpa using hio)
  rw [fPad_nil] at this
  exact ⟨_, peX_call F (hr.mono hk) hg hm kp b .nil tk p' hdb he hpl, this⟩
end
/-! ### of which class an error is; its field -/
/-- what is asked of a class of errors: its instances may be looked at -/
structure ExcK (K : PySem.W.Frag) (C : Addr) : Prop where
  cl : (PySem.W.clsIn K C).isSome = true
  ga : PySem.W.findIn K (.ref C) "__getattribute__" = some (some (.builtin "BaseException.__getattribute__"))
  gg : PySem.W.findIn K (.ref C) "__getattr__" = some none
  sb : PySem.W.subIn K (.ref C) (.type "BaseException") = some true
  ca : PySem.W.findIn K (.ref C) "__class__" = some (some (.builtin "object.__class__"))
  cg : PySem.W.specialIn K (.builtin "object.__class__") "__get__" = some (some (.builtin "getset_descriptor.__get__"))
  ct : PySem.W.takesIn K (.builtin "object.__class__") = some true
  mo : PySem.W.mroIn K C (.type "object") = some true
  hd : PySem.W.hasDictIn K C = true
theorem exK_inst {P : Program} {w : World} {H : Hp} {h : Heap} {a c : Addr} {d : Option Addr} {us : List (Str × V)} (ok : HOk P w H h) (e : H a = some (ExK a c d)) (x : XdAt H d us) : ∃ (o : Obj) (od : Option Obj), PySem.W.InstAt h a o c od ∧
    (∀ dd, d = some dd → ∃ (b : Obj) (mA : Str → Option Value), od = some b ∧ h.Ns1 dd mA ∧ h.get? dd = some b ∧ ∀ f, RelO (us.lookup f) (mA f)) := by
  obtain ⟨o, xs, e1, z, f⟩ := exK_at ok e
  have nc : PySem.W.notCls o = true := by unfold PySem.W.notCls; rw [f]
  cases d with
  | none => exact ⟨o, none, ⟨e1, z.1, nc, by rw [z.2]; trivial⟩, fun dd q => by cases q⟩
  | some b =>
    have x : H b = some (.xd us) := x
    obtain ⟨mA, n1, n2⟩ := ok b _ x
    obtain ⟨ob, es, ep, n3, n4⟩ := id n1
    refine ⟨o, some ob, ⟨e1, z.1, nc, by rw [z.2]; exact n3⟩, fun dd q => ?_⟩
    cases q
    exact ⟨ob, mA, rfl, n1, n3, n2⟩
def ExcL (K : PySem.W.Frag) (cls : String → Option Addr) (L : List String) : Prop := ∀ c Ca, L.contains c = true → cls c = some Ca → ExcK K Ca
section
variable {X : Cx} {N : Cn} {st : Bool} {L Ts : List String} {T : String} {e : Expr} {es : List Expr} {m : ME} {p pT pos : Pos}
/-- the field f of an error -/
def eXf (L : List String) (f : String) (m : ME) : ME := fun env => (m env).bind fun d e => match d with
  | .exn c fs => if L.contains c then lift (fs.lookup f) e else .no
  | _ => .no
theorem rdF_at {C : Ct} {Z H : Hp} {f : String} {d : D} : ∀ {fs : List (String × D)} {us : List (Str × V)}, RdF C Z H fs us [] → fs.lookup f = some d → ∃ v, us.lookup (PySem.Str.ofString f) = some v ∧ RdV C Z H d v []
  | [], us, h, e => by cases e
  | (g, d2) :: r, us, h, e => by
    rw [RdF] at h
    obtain ⟨v, s, F1, F2, rfl, hF, h1, h2⟩ := h
    obtain ⟨rfl, rfl⟩ : F1 = [] ∧ F2 = [] := by simpa using hF.symm
    rw [List.lookup_cons] at e ⊢
    by_cases q : f = g
    · subst q
      simp only [beq_self_eq_true] at e ⊢
      cases e
      exact ⟨v, rfl, h1⟩
    · have q2 : (PySem.Str.ofString f == PySem.Str.ofString g) = false := beq_eq_false_iff_ne.mpr fun z => q (ofString_inj z)
      have q1 : (f == g) = false := beq_eq_false_iff_ne.mpr q
      rw [q1] at e
      rw [q2]
      exact rdF_at h2 e
def tXF (C : PySem.W.Frag) (f : Str) (te : TE) : TE := fun σ H Q => te σ H fun x H1 => ∃ (a Ca dd : Addr) (us : List (Str × V)) (v : V), x = .ref a ∧ H1 a = some (ExK a Ca (some dd)) ∧ H1 dd = some (.xd us) ∧ ExcK C Ca ∧ PySem.W.findIn C (.ref Ca) f = some none ∧ us.lookup f = some v ∧ Q v H1
theorem pe_xF {f : Str} {te : TE} (he : PE X e te) (hb : attributeBase e f X.env (eval e X.env) = eval e X.env := by rfl) : PE X (.Attribute e f pos) (tXF X.K f te) := by
  constructor
  intro pins s σ H Q I h
  apply attr_of hb
  apply thn (he.run pins s σ H _ I h)
  rintro u s1 ⟨x, H1, I1, rx, a, Ca, dd, us, v, rfl, h1, h2, k, hn, hl, q⟩
  obtain rfl := rx
  obtain ⟨o, od, J, hd⟩ := exK_inst I1.hok h1 h2
  obtain ⟨ob, mA, rfl, n1, n2, n3⟩ := hd dd rfl
  obtain ⟨o2, e2, e3⟩ := lookIn_ns n1
  rw [n2] at e2
  cases e2
  obtain ⟨z, hz, rz⟩ := RelO.some_of (v := v) (o := mA f) (by rw [← hl]; exact n3 f)
  exact HandSPX.exc_get I1.kIn J k.ga k.gg k.sb (PySem.W.findObj_own k.hd hn rfl (by rw [e3, hz])) (handed_of rz) ⟨v, H1, I1.tok _, rz, q⟩
theorem q_xF {f : String} (ag : Ag X N) (hL : ExcL X.K N.C.cls L) (hf : ∀ c Ca, L.contains c = true → N.C.cls c = some Ca → PySem.W.findIn X.K (.ref Ca) (PySem.Str.ofString f) = some none) (ha : QT X N st e m) (hb : attributeBase e (PySem.Str.ofString f) X.env (eval e X.env) = eval e X.env := by rfl) :
    QT X N st (.Attribute e (PySem.Str.ofString f) pos) (eXf L f m) := by
  obtain ⟨t, p', q⟩ := ha
  refine ⟨_, pe_xF p' hb, ?_⟩
  intro env σ Z H F Q o re w
  refine q env σ Z H F _ o re (w.bind.mono (Pin.refl _ _) (Ext.refl o) ?_)
  intro d env1 k v0 Z1 H1 Fd F1 x rd r1 sm
  cases d with
  | exn c fs =>
    simp only at k
    split at k
    · rename_i hl
      cases e : fs.lookup f with
      | none => rw [e] at k; exact k.elim
      | some g =>
        rw [e] at k
        rw [RdV] at rd
        obtain ⟨_, a, Ca, dd, us, rfl, hc, hz, hx, hr⟩ := rd
        obtain ⟨v, e1, e2⟩ := rdF_at hr e
        cases dd with
        | none =>
          have hx : us = [] := hx
          subst hx
          cases e1
        | some b => exact ⟨a, Ca, b, us, v, rfl, x.ok.zh _ _ hz, x.ok.zh _ _ hx, hL c Ca hl hc, hf c Ca hl hc, e1, k v Z1 H1 [] F1 x e2 r1 sm⟩
    · exact k.elim
  | _ => exact k.elim
end
end Mi
set_option maxHeartbeats 4000000
namespace Mi
open PySem PySem.Spec PyProof.Rows L2 RZ Ov PpSet
open LamX (CodeO Tabs TabS TabB LamS lamEnv lamCx)
/-! ### what a lambda catches -/
def capsL : List Nat → ML
  | [] => lNil
  | i :: r => lCons (eVk i) (capsL r)
def capsT : List Nat → TA
  | [] => tNil
  | i :: r => tCons (tVar i) (capsT r)
theorem caps_ref {N : Cn} : ∀ is : List Nat, RefA N true (capsT is) (capsL is)
  | [] => ra_nil
  | i :: r => ra_cons (s1 := true) (s2 := true) re_vk (caps_ref r)
/-- the places is of σ hold vs -/
def At3 (σ : L2.St) : List Nat → List V → Prop
  | [], vs => vs = []
  | i :: r, vs => ∃ v s, vs = v :: s ∧ σ[i]? = some (some v) ∧ At3 σ r s
theorem caps_at {σ : L2.St} : ∀ {is : List Nat} {H : Hp} {Q : List V → Hp → Prop}, capsT is σ H Q → ∃ vs, At3 σ is vs ∧ Q vs H
  | [], H, Q, h => ⟨[], rfl, h⟩
  | i :: r, H, Q, h => by
    obtain ⟨v, h1, h2⟩ := h
    obtain ⟨vs, h3, h4⟩ := caps_at h2
    exact ⟨v :: vs, ⟨v, vs, rfl, h1, h3⟩, h4⟩
theorem rdE_none {C : Ct} {Z H : Hp} : ∀ {n : Nat} {σ : L2.St}, σ.length = n → RdE C Z H (List.replicate n none) σ []
  | 0, σ, h => ⟨List.eq_nil_of_length_eq_zero h, rfl⟩
  | n + 1, x :: σ, h => ⟨x, σ, rfl, rdE_none (by simpa using h)⟩
theorem rdE_sets {C : Ct} {Z H : Hp} {σ : L2.St} : ∀ {is : List Nat} {ds : List D} {vs : List V} {env : Env}, RdE C Z H env σ [] → RdL C Z H ds vs [] → At3 σ is vs → RdE C Z H (setsE env is ds) σ []
  | [], ds, vs, env, r, _, _ => by cases ds <;> exact r
  | i :: is, [], vs, env, r, _, _ => r
  | i :: is, d :: ds, vs, env, r, h, a => by
    obtain ⟨v, s, rfl, h1, h2⟩ := a
    rw [RdL] at h
    obtain ⟨v2, s2, F1, F2, e, hF, g1, g2⟩ := h
    cases e
    obtain ⟨rfl, rfl⟩ : F1 = [] ∧ F2 = [] := by simpa using hF.symm
    obtain ⟨F3, k1, k2⟩ := r.drop i
    obtain rfl := List.sublist_nil.mp k1
    have hi : i < env.length := by
      rw [r.length]
      rcases Nat.lt_or_ge i σ.length with z | z
      · exact z
      · rw [List.getElem?_eq_none z] at h1; cases h1
    obtain ⟨F4, k3, k4⟩ := RdE.put k2 hi g1
    obtain rfl := k3.eq_nil
    rw [set_same (env := env) h1] at k4
    have z : RdE C Z H (setsE (env.set i (some d)) is ds) σ [] := rdE_sets k4 g2 h2
    exact z
/-! ### the call of what was handed in -/
open Classical in
noncomputable def eCb (v : D) (i : Nat) (rb : R D) : ME := fun env => if env[i]? = some (some v) then (match rb with
  | .ok d _ => .ok d env
  | .ex x _ => .ex x env
  | .no => .no) else .no
section
variable {X : Cx} {pins : List (Addr × Obj)} {σ : L2.St} {H : Hp} {s : Shared} {C : Ct} {pin : List Nat} {f c' g : Addr} {params : Arguments} {body : Expr} {scope : Scope} {pm ctv cdg : Value} {k i : Nat} {a qg : Str} {Ng : List Str} {sg : Scope} {mb : ME} {st : Bool} {caps : List Nat} {ds : List D} {vs : List V} {W : WX} {CXg : CXT} {Eg : XK} {pn : List (Addr × Obj)} {xe : Value → Shared → Prop} {p1 p2 : Pos}
theorem q_act (hK : X.K = C.K) (I : Inv X pins σ H s) (L : LamS X.env.scope scope) (hf : s.heap.get? f = some (PySem.W.kla_obj "<lambda>" (X.env.qual ++ "<lambda>") params body scope (cloFrom X.env.cells scope.names []) pm c' ctv)) (hn : H f = none) (hfr : f ∉ frs X.stack)
    (hb : bindArgs (PySem.W.kla_fn "<lambda>" (X.env.qual ++ "<lambda>") params body scope (cloFrom X.env.cells scope.names []) pm (.ref c') ctv) ⟨[], []⟩ = pure [])
    (tk : Takes ((cxOf CXg X.prog X.w X.K X.mg X.base Ng qg sg g cdg X.A X.stack s H Eg).tr pn xe) W) (hr : Rm (k + 1) (X.A.deeper (envOfC qg sg s.heap.objs.size g cdg)))
    (hbody : ∀ (A : Around) (outer : List PySem.Env) (s : Shared) (H : Hp) (E : XK), Rm k (A.deeper (lamEnv X scope s.heap.objs.size f c')) → Takes (lamCx X A outer s H E scope f c') (fun c d _ H' => E c d H') → QE (lamCx X A outer s H E scope f c') ⟨C, some fun c d _ H' => E c d H', []⟩ st body mb)
    (ha : At3 σ caps vs) (hN : Ng[i]? = some a) (hv : Vis sg a) (hd : (a == ("__debug__" : Str)) = false := by decide) (hcd : (a == ("__classdict__" : Str)) = false := by decide) :
    QE ((cxOf CXg X.prog X.w X.K X.mg X.base Ng qg sg g cdg X.A X.stack s H Eg).tr pn xe) ⟨C, some W, pin⟩ false (.Call (.Name a p1) [] [] p2) (eCb (.fnc f c' (X.env.qual ++ "<lambda>") ds vs) i (mb (setsE (List.replicate X.N.length none) caps ds))) := by
  refine ⟨tOfE ⟨C, some W, pin⟩ false _, ⟨?_⟩, tofE⟩
  rintro pinsG sG σG HG Q IG ⟨env, Z, F, ok, rd, w⟩
  unfold eCb at w
  by_cases hi : env[i]? = some (some (D.fnc f c' (X.env.qual ++ "<lambda>") ds vs))
  case neg => rw [if_neg hi] at w; exact w.elim
  rw [if_pos hi] at w
  obtain ⟨v, F1, F2, at_, rv, pf, _⟩ := rd.take hi
  rw [RdV] at rv
  obtain ⟨_, rfl, hz, rds⟩ := rv
  apply wpAny_Call_Name_kw
  apply thn ((pe_var (pos := p1) (i := i) hN hv hd hcd).run pinsG sG σG HG (fun u H2 => u = .ref f ∧ H2 = HG) IG ⟨.ref f, at_, rfl, rfl⟩)
  rintro u s1 ⟨x, H1, I1, r1, rfl, rfl⟩
  obtain rfl := r1
  have obj := I1.base.keep f _ hf hn hfr fun z => nomatch z
  apply PySem.W.callWith_F0 ⟨_, _, _, _, obj⟩
  obtain ⟨⟨oc, us, t, q1, q2, q3⟩, _, _⟩ := I1.hok c' _ (ok.zh _ _ hz)
  have run : codeAny (model X.prog X.w) (X.A.deeper (envOfC qg sg s.heap.objs.size g cdg)) (.call (.ref f) ⟨[], []⟩) (CR (L2.CX X.prog X.w) (envOfC qg sg s.heap.objs.size g cdg :: X.stack) X.prog X.w H1 s1 Q (fun c d H2 => W c d σG H2)) s1 := by
    apply PySem.W.kla_callFunE hr.r.depth obj rfl L.co L.gen rfl ⟨c', oc, us, t, rfl, q1, q2, q3⟩
    rw [hb]
    apply wpAny_pure
    apply wpAny_newFunctionEnv (fun y hy => (L.own y hy).2) (fun y hy => absurd hy List.not_mem_nil) _ L.kind
    intro h1 n1 b1
    constructor
    · exact I1.nolimit.fresh _ b1
    have kp : ∀ b o, s1.heap.get? b = some o → h1.get? b = some o := fun b o e => b1.extBut b o (Nat.ne_of_lt (Heap.lt_size e)) (Heap.get?_push_of_some _ e)
    apply PySem.W.kla_codeExpr
    obtain ⟨tb, pb, rb⟩ := hbody (X.A.deeper (envOfC qg sg s.heap.objs.size g cdg)) (envOfC qg sg s.heap.objs.size g cdg :: X.stack) s1 H1 (fun c d H2 => W c d σG H2) (hr.deeper _) (takes_of rfl rfl rfl rfl)
    have J := LamX.lam_start2 (E := fun c d H2 => W c d σG H2) (c' := c') (f := f) (tk := s1.toks + ([] : List (Str × Value)).length) I L I1.env0 hr.r.hd I1.base n1 kp
    have o0 : Ok C.T Z H1 [] := ok.sub List.nodup_nil fun b hb => absurd hb List.not_mem_nil
    refine wpAny_mono (pb.run [] _ σ H1 Q J (rb (setsE (List.replicate X.N.length none) caps ds) σ Z H1 [] Q o0 (rdE_sets (rdE_none I.len) rds ha) ?_)) ?_ fun e s2 z => z
    · cases q : mb (setsE (List.replicate X.N.length none) caps ds) with
      | no => rw [q] at w; exact w.elim
      | ok d e2 =>
        rw [q] at w
        intro v Z2 H2 Fv F3 x rv _ _
        have y := x.frame (G := F) (by simpa using ok)
        refine w v Z2 H2 Fv F ((y.left (G := F) (by simp)).sub ?_ ?_) rv ?_ (fun z => by cases z)
        · have := y.ok.nd
          rw [List.append_assoc] at this
          refine List.nodup_append.mpr ⟨nodup_left this, nodup_right (nodup_right this), fun b hb b2 hb2 e => ?_⟩
          exact (List.nodup_append.mp this).2.2 b hb b2 (List.mem_append_right _ hb2) e
        · intro b hb
          rw [List.append_assoc]
          rcases List.mem_append.mp hb with z | z
          · exact List.mem_append_left _ z
          · exact List.mem_append_right _ (List.mem_append_right _ z)
        · exact x.heldE (fun b hb => List.not_mem_nil) rd
      | ex y e2 =>
        rw [q] at w
        intro σ2 b Cb Z2 H2 F3 fs _ x _ hc hb2 hu
        have z := x.frame (G := F) (by simpa using ok)
        exact w σG b Cb Z2 H2 F fs (Pin.refl _ _) ((z.left (G := F) (by simp)).sub (nodup_right z.ok.nd) fun b hb => List.mem_append_right _ hb) (x.heldE (fun b hb => List.not_mem_nil) rd) hc hb2 hu
    · rintro v s2 ⟨u, H2, J2, r2, q⟩
      exact ⟨u, H2, J2.os, J2.bare, J2.base, J2.hok, r2, q⟩
  apply wpAny_call
  apply codeAny_mono run
  intro r s2 hq
  match r, hq with
  | .error y, hq => exact passAt tk σG pinsG H1 s1 y s2 I1 hq
  | .ok (.ret u), hq => exact I1.after hq
end
end Mi
set_option maxHeartbeats 4000000
namespace Mi
open PySem PySem.Spec PyProof.Rows L2 RZ Ov PpSet
open LamX (CodeO Tabs TabS TabB LamS lamEnv lamCx ExtN)
/-! ### a def that calls the lambda it is handed -/
/-- what a body gives, by what its def promises -/
theorem spM_run {C : Ct} {t : TS} {io : List Bool} {n : Nat} {m : MS} {Ns : List Str} {vs : List V} {H : Hp} {Q : VK} {E : XK} (hn : Ns.length = io.length + n) (hm : RefS ⟨C, none, pinOf io 0⟩ t m) (hs : spM C false io (fnOf n io m) vs H Q E) :
    t { nx := fun _ H' => Q .non H', rt := Q } (L2.start Ns vs) H := by
  obtain ⟨ds, Z, F, hl, rl, o, hf⟩ := hs
  have hst : L2.start Ns vs = vs.map some ++ List.replicate n none := by
    unfold L2.start
    rw [hn, hl, Nat.add_sub_cancel_left]
  rw [hst]
  refine hm (ds.map some ++ List.replicate n none) _ Z H F _ o (RdE.ofL rl) ?_
  have fin : ∀ {env : Env} {σ' : L2.St} {Z' H' : Hp} {F' : List Addr} {ios : List D}, Pin (pinOf io 0) (vs.map some ++ List.replicate n none) σ' → RdE C Z' H' env σ' F' → allS (pick io env) = some ios →
      ∃ F2, F2.Sublist F' ∧ RdL C Z' H' ios (pick io vs) F2 := by
    intro env σ' Z' H' F' ios p r e
    have le : env.length = vs.length + n := by rw [r.length, p.1]; simp
    have l1 : io.length ≤ env.length := by rw [le]; omega
    refine RdE.pick r e l1 ?_ hl
    have := pick_pin (io := io) (vs := vs) (σ' := σ') (k := 0) (pre := []) (post := List.replicate n none) hl rfl (fun i hi => by simpa using p.2 i hi) (by rw [← r.length]; omega)
    simpa using this
  unfold fnOf at hf
  cases q : m (ds.map some ++ List.replicate n none) with
  | no => rw [q] at hf; exact hf.elim
  | ex x env =>
    rw [q] at hf
    cases e : allS (pick io env) with
    | none => simp only [e] at hf
    | some ios =>
      simp only [e] at hf
      exact absurd hf.1 Bool.false_ne_true
  | ok fl env =>
    rw [q] at hf
    cases fl with
    | bk => exact hf.elim
    | ct => exact hf.elim
    | nx =>
      intro σ' Z' H' F' p x r
      cases e : allS (pick io env) with
      | none => simp only [e] at hf
      | some ios =>
        simp only [e] at hf
        obtain ⟨F2, s2, r2⟩ := fin p r e
        exact hf .non Z' H' [] F2 (x.sub (s2.nodup x.ok.nd) fun a ha => s2.mem ha) rd_non r2
    | rt d =>
      intro σ' v Z' H' Fv F' p x rv r
      cases e : allS (pick io env) with
      | none => simp only [e] at hf
      | some ios =>
        simp only [e] at hf
        obtain ⟨F2, s2, r2⟩ := fin p r e
        refine hf v Z' H' Fv F2 (x.sub (List.nodup_append.mpr ⟨nodup_left x.ok.nd, s2.nodup (nodup_right x.ok.nd), fun a ha b hb e => ?_⟩) fun a ha => ?_) rv r2
        · subst e
          exact x.ok.disj a ha (s2.mem hb)
        · rcases List.mem_append.mp ha with z | z
          · exact List.mem_append_left _ z
          · exact List.mem_append_right _ (s2.mem z)
/-- the def x: its first parameter a is a lambda that it calls; gb: its body's mirror, by what the lambda gives -/
structure Giv (P : Program) (w : World) (K : PySem.W.Frag) (mg : Str → Option Value) (base : Heap) (C : Ct) (k : Nat) (x : Str) (Ng ps : List Str) (a : Str) (n : Nat) (gb : D → R D → MS) : Prop where
  ex : ∃ (st : Stmt) (g : Addr) (oc : Value) (od : Option Addr) (dV kV doc pm : Value) (an : Option Addr) (cdv ct : Value) (osl : Array (Option Value)), mg x = some (.ref g) ∧ PySem.W.keepIn K (.ref g) = true ∧
    K.lookup g = some ⟨oc, od, .func (PySem.W.fnOf x x (defArgs st) (defBody st) (defScope st) dV kV doc pm an cdv ct), osl⟩ ∧ PySem.W.codeIn K cdv x = true ∧ Binds K (PySem.W.fnOf x x (defArgs st) (defBody st) (defScope st) dV kV doc pm an cdv ct) ps [] ∧
    FnScope Ng ps (defScope st) ∧ Ng[0]? = some a ∧ Vis (defScope st) a ∧ Ng.length = ps.length + n ∧
    ∀ (A : Around) (outer : List PySem.Env) (s : Shared) (H : Hp) (v : D) (rb : R D), Rm k (A.deeper (envOfC x (defScope st) s.heap.objs.size g cdv)) →
      (∀ (W : WX) (pn : List (Addr × Obj)) (xe : Value → Shared → Prop) (p1 p2 : Pos), Takes ((cxOf CX0 P w K mg base Ng x (defScope st) g cdv A outer s H E0).tr pn xe) W →
        QE ((cxOf CX0 P w K mg base Ng x (defScope st) g cdv A outer s H E0).tr pn xe) ⟨C, some W, []⟩ false (.Call (.Name a p1) [] [] p2) (eCb v 0 rb)) →
      QSs (cxOf CX0 P w K mg base Ng x (defScope st) g cdv A outer s H E0).nox ⟨C, none, []⟩ (defBody st) (gb v rb)
theorem pin_no {m i : Nat} : pinOf (List.replicate m false) i = [] := by
  induction m generalizing i with
  | zero => rfl
  | succ m ih => rw [List.replicate_succ, pinOf, ih]
/-- the mirror of such a def -/
noncomputable def gvF (m n : Nat) (gb : D → R D → MS) (rb : R D) : Fun := fun as => match as with
  | v :: es => if es.length + 1 = m then fnOf n (List.replicate m false) (gb v rb) (v :: es) else .no
  | [] => .no
open Classical in
/-- what the def gives, wherever the lambda lies -/
noncomputable def lamR (g : Fun) (ds es : List D) (env : Env) : R D := if h : fznL ds = true ∧ ∃ d, ∀ f c q vs, g (.fnc f c q ds vs :: es) = .ok d [] then .ok h.2.choose env else .no
/-- x(lambda: .., ..): caps, what the lambda catches; mb, its body; gm, the def x -/
noncomputable def eLam (caps : List Nat) (n : Nat) (mb : ME) (gm : R D → Fun) (ms : ML) : ME := fun env => (capsL caps env).bind fun ds env1 => (ms env1).bind fun es env2 => lamR (gm (mb (setsE (List.replicate n none) caps ds))) ds es env2
theorem lamR_eq {g : Fun} {ds es : List D} {env : Env} {d : D} (h3 : fznL ds = true) (h5 : ∀ f c q vs, g (.fnc f c q ds vs :: es) = .ok d []) : lamR g ds es env = .ok d env := by
  unfold lamR
  have h : fznL ds = true ∧ ∃ d, ∀ f c q vs, g (.fnc f c q ds vs :: es) = .ok d [] := ⟨h3, d, h5⟩
  rw [dif_pos h]
  have e := h.2.choose_spec 0 0 default []
  rw [h5 0 0 default []] at e
  injection e with e1
  rw [← e1]
theorem v_lam {caps : List Nat} {n : Nat} {mb : ME} {gm : R D → Fun} {ms : ML} {env env1 env2 : Env} {ds es : List D} {d : D} {rb : R D} (h1 : capsL caps env = .ok ds env1) (h2 : ms env1 = .ok es env2) (h3 : fznL ds = true) (h4 : mb (setsE (List.replicate n none) caps ds) = rb) (h5 : ∀ f c q vs, gm rb (.fnc f c q ds vs :: es) = .ok d []) :
    eLam caps n mb gm ms env = .ok d env2 := by
  unfold eLam
  rw [h1, R.bind_ok, h2, R.bind_ok, h4, lamR_eq h3 h5]
theorem lamR_w {N : Cn} {σ : L2.St} {Z H : Hp} {F : List Addr} {g : Fun} {ds es : List D} {env : Env} {k : D → Env → Prop} (w : Wp N σ Z H F (lamR g ds es env) k) : fznL ds = true ∧ ∃ d, (∀ f c q vs, g (.fnc f c q ds vs :: es) = .ok d []) ∧ k d env := by
  by_cases h : fznL ds = true ∧ ∃ d, ∀ f c q vs, g (.fnc f c q ds vs :: es) = .ok d []
  · obtain ⟨h1, d, h2⟩ := h
    rw [lamR_eq h1 h2] at w
    exact ⟨h1, d, h2, w⟩
  · unfold lamR at w
    rw [dif_neg h] at w
    exact w.elim
/-- a lambda was made -/
theorem ext_lam {Ω : List (Addr × Str)} {Z H H1 : Hp} {F : List Addr} {c : Addr} {q : Str} (o : Ok Ω Z H F) (hF : ∀ a ∈ F, ∃ u, H a = some u ∧ NodeO a u) (x : ExtN H H1) (t : Tabs Ω H1) (hΩ : Ω ≠ []) (hc : H1 c = some (CodeO c q)) : Ext Ω Z H F (upd Z c (CodeO c q)) H1 F := by
  have kp : ∀ a ∈ F, ∀ u, H a = some u → H1 a = some u := fun a ha u e => by
    obtain ⟨u2, e2, n2⟩ := hF a ha
    rw [e] at e2
    cases e2
    exact x a u e n2.tb
  have o1 : Ok Ω Z H1 F := ⟨fun a u e => x a u (o.zh a u e) fun ps z => o.zt a ps (by rw [e, z]), o.zf, o.nd, fun a ha => by
    obtain ⟨u2, e2, n2⟩ := hF a ha
    rw [kp a ha u2 e2]; simp, fun a ha u e => by
    obtain ⟨u2, e2, n2⟩ := hF a ha
    rw [kp a ha u2 e2] at e
    cases e
    exact n2, o.zt, t⟩
  have nt : NT H c := fun u e n => n.cd q (Option.some.inj ((x c u e n.tb).symm.trans hc))
  have hcF : c ∉ F := fun h => by
    obtain ⟨u2, e2, n2⟩ := hF c h
    exact nt u2 e2 n2
  have y := o1.addZ hc hcF (fun n => n.cd q rfl) fun ps z => LamX.codeO_ne ps z
  refine ⟨y.zz, y.ok, fun b u e _ nt => ?_, fun a ha => .inl ha, fun a ha => ?_⟩
  · rcases nt with nt | nt
    · exact absurd nt hΩ
    · exact x b u e nt
  · by_cases q : a = c
    · subst q; exact .inr (.inr nt)
    · rw [upd_ne q] at ha; exact .inl ha
/-- the name that a lambda of the def x bears -/
abbrev lamQ (x : Str) : Str := (x ++ (".<locals>." : Str)) ++ ("<lambda>" : Str)
theorem cx_qual {CX : CXT} {P : Program} {w : World} {K : PySem.W.Frag} {mg : Str → Option Value} {base : Heap} {N : List Str} {qual : Str} {scope : Scope} {f : Addr} {cdv : Value} {A : Around} {outer : List PySem.Env} {s : Shared} {H : Hp} {E : XK} :
    (cxOf CX P w K mg base N qual scope f cdv A outer s H E).nox.env.qual = qual ++ (".<locals>." : Str) := rfl
section
variable {X : Cx} {N : Cn} {x a : Str} {ps Ng : List Str} {k n : Nat} {gb : D → R D → MS} {c P : Addr} {params : Arguments} {body : Expr} {scope : Scope} {p lpos pos : Pos} {es : List Expr} {ms : ML} {mb : ME} {s1 s2 : Bool} {caps : List Nat}
theorem q_lam (ag : Ag X N) (hpx : N.px = none) (gv : Giv X.prog X.w X.K X.mg X.base N.C k x Ng ps a n gb) (TB : TabB X.base X.mg c P) (hcode : X.env.code = .ref c) {x0 : Str} (hq : X.env.qual = x0 ++ (".<locals>." : Str)) (hmT0 : (P, lamQ x0) ∈ N.C.T) (hu0 : ∀ q ∈ N.C.T, q.1 = P → q.2 = lamQ x0) {j kb : Nat} (hr : Rm j X.A) (L : LamS X.env.scope scope)
    (hbody : ∀ (f c' : Addr) (A : Around) (outer : List PySem.Env) (s : Shared) (H : Hp) (E : XK), Rm kb (A.deeper (lamEnv X scope s.heap.objs.size f c')) → Takes (lamCx X A outer s H E scope f c') (fun c d _ H' => E c d H') → QE (lamCx X A outer s H E scope f c') ⟨N.C, some fun c d _ H' => E c d H', []⟩ s1 body mb)
    (ha : QA X N s2 es ms) (hk : k + 1 ≤ j := by decide) (hkb : kb + 1 ≤ k := by decide) (hl : ps.length = es.length + 1 := by rfl) (hg : Gl X x := by rfl) (hdef : defaultsOf params X.env = ([], []) := by rfl)
    (hbind : ∀ (q : Str) (cl : List (Str × Addr)) (pm cv ctv : Value), bindArgs (PySem.W.kla_fn "<lambda>" q params body scope cl pm cv ctv) ⟨[], []⟩ = pure [] := by intros; rfl)
    (hdb : (x == ("__debug__" : Str)) = false := by decide) (hd : (a == ("__debug__" : Str)) = false := by decide) (hcd : (a == ("__classdict__" : Str)) = false := by decide)
    (he : starEach (.Lambda params body scope lpos :: es) X.env = (false, eval (.Lambda params body scope lpos) X.env) :: starEach es X.env := by rfl) (hpl : (backTo pos (starEach es X.env)).any (·.1) = false := by rfl) :
    QE X N false (.Call (.Name x p) (.Lambda params body scope lpos :: es) [] pos) (eLam caps X.N.length mb (gvF ps.length n gb) ms) := by
  have hK := ag.K
  have hmT : (P, X.env.qual ++ ("<lambda>" : Str)) ∈ N.C.T := by rw [hq]; exact hmT0
  have hu : ∀ q ∈ N.C.T, q.1 = P → q.2 = X.env.qual ++ ("<lambda>" : Str) := by rw [hq]; exact hu0
  refine ⟨tOfE N false _, ⟨?_⟩, tofE⟩
  rintro pins s σ H Q I ⟨env, Z, F, ok, rd, w⟩
  obtain ⟨st, g, oc, od, dV, kV, doc, pm, an, cdv, ct, osl, hm, hkp, lk, hcg, hb, Sg, hNg, hva, hNn, hgb⟩ := gv.ex
  obtain ⟨ta, pa, ra⟩ := ha
  -- what it catches
  obtain ⟨vs, at3, ds, env1, Z1, Fc, F1, x1, rds, rd1, w1⟩ := caps_at (Q := fun vs H' => ∃ ds env1 Z1 Fc F1, Ext N.C.T Z H F Z1 H' (Fc ++ F1) ∧ RdL N.C Z1 H' ds vs Fc ∧ RdE N.C Z1 H' env1 σ F1 ∧
    Wp N σ Z H F ((ms env1).bind fun es env2 => lamR (gvF ps.length n gb (mb (setsE (List.replicate X.N.length none) caps ds))) ds es env2)
      (fun d env' => ∀ v Z' H' Fv F', Ext N.C.T Z H F Z' H' (Fv ++ F') → RdV N.C Z' H' d v Fv → RdE N.C Z' H' env' σ F' → (false = true → Same H H') → Q v H'))
    (caps_ref caps env σ Z H F _ ok rd ((Wp.bind w).mono (Pin.refl _ _) (Ext.refl ok) fun ds env1 k1 vs Z1 H1 Fc F1 x1 r1 r2 _ => ⟨ds, env1, Z1, Fc, F1, x1, r1, r2, k1⟩))
  by_cases hz : fznL ds = true
  case neg =>
    exfalso
    cases q : ms env1 with
    | no => rw [q] at w1; exact w1.elim
    | ex y e =>
      rw [q] at w1
      have w1 : Wish N σ Z H F y e := w1
      unfold Wish at w1
      rw [hpx] at w1
      exact w1.elim
    | ok es2 e =>
      rw [q, R.bind_ok] at w1
      exact hz (lamR_w w1).1
  obtain rfl := RdL.fznL ds vs Fc hz rds
  have x1 : Ext N.C.T Z H F Z1 H F1 := x1
  -- it is made
  apply wpAny_Call_Name_kw
  apply ld_glob I hg hm _ hdb
  apply PySem.W.callWith_K (h₀ := X.base) I.ok.mod.kin hkp _ he hpl
  rw [he]
  refine Calls.spliced_cons (LamX.lam_make2 (T := N.C.T) I TB hcode hmT hu x1.ok.tb hdef (L.has I.ok) fun f c' pm' ctv H1 s' I1 eN T1 hf hfn hfr hco => ?_)
  have hΩ : N.C.T ≠ [] := List.ne_nil_of_mem hmT
  have xl : Ext N.C.T Z1 H F1 (upd Z1 c' (CodeO c' (X.env.qual ++ "<lambda>"))) H1 F1 := ext_lam x1.ok (RdE.nk rd1) eN T1 hΩ hco
  have rd2 : RdE N.C (upd Z1 c' (CodeO c' (X.env.qual ++ "<lambda>"))) H1 env1 σ F1 := RdE.mono xl.zz (fun b hb => by
    obtain ⟨u, e, nn⟩ := RdE.nk rd1 b hb
    rw [eN b u e nn.tb, e]) rd1
  have rds2 : RdL N.C (upd Z1 c' (CodeO c' (X.env.qual ++ "<lambda>"))) H1 ds vs [] := rds.frozen xl.zz H1
  have zc : upd Z1 c' (CodeO c' (X.env.qual ++ "<lambda>")) c' = some (CodeO c' (X.env.qual ++ "<lambda>")) := upd_same
  generalize upd Z1 c' (CodeO c' (X.env.qual ++ "<lambda>")) = Z2 at xl rd2 rds2 zc
  have x2 := x1.trans xl
  -- its object stays while the other arguments are reckoned
  have nfs : f ∉ X.fs := fun z => hfr (by
    rcases I.ok.stk with e | ⟨e, _⟩
    · rw [e]; exact z
    · rw [e]
      obtain ⟨b, hb, q⟩ := List.mem_filterMap.mp z
      exact List.mem_filterMap.mpr ⟨b, List.mem_cons_of_mem _ hb, q⟩)
  have nl : f ≠ X.env.locals := fun z => by
    obtain ⟨m, ⟨o2, u1, u2, e, u3, _⟩, _⟩ := I1.loc
    rw [← z, hf] at e
    cases e
    cases u3
  have Ip : Inv X ((f, PySem.W.kla_obj "<lambda>" (X.env.qual ++ "<lambda>") params body scope (cloFrom X.env.cells scope.names []) pm' c' ctv) :: pins) σ H1 s' := by
    have pk : ∀ q ∈ X.pn ++ (f, PySem.W.kla_obj "<lambda>" (X.env.qual ++ "<lambda>") params body scope (cloFrom X.env.cells scope.names []) pm' c' ctv) :: pins, s'.heap.get? q.1 = some q.2 ∧ H1 q.1 = none ∧ q.1 ≠ X.env.locals ∧ q.1 ∉ X.fs ∧ ∀ v, q.2.data ≠ .cell v := by
      intro q hq
      rcases List.mem_append.mp hq with z | z
      · exact I1.pin q (List.mem_append_left _ z)
      · rcases List.mem_cons.mp z with rfl | z
        · exact ⟨hf, hfn, nl, nfs, fun v z => by cases z⟩
        · exact I1.pin q (List.mem_append_right _ z)
    exact { I1 with pin := pk }
  refine thn (pa.run pos _ s' σ H1 (fun us H2 => ∃ es2 env2 Z3 Fv F2, Ext N.C.T Z2 H1 F1 Z3 H2 (Fv ++ F2) ∧ RdL N.C Z3 H2 es2 us Fv ∧ RdE N.C Z3 H2 env2 σ F2 ∧
    Wp N σ Z H F (lamR (gvF ps.length n gb (mb (setsE (List.replicate X.N.length none) caps ds))) ds es2 env2)
      (fun d env' => ∀ v Z' H' Fv F', Ext N.C.T Z H F Z' H' (Fv ++ F') → RdV N.C Z' H' d v Fv → RdE N.C Z' H' env' σ F' → (false = true → Same H H') → Q v H'))
    Ip (ra env1 σ Z2 H1 F1 _ xl.ok rd2 (((Wp.bind w1).mono (Pin.refl _ _) x2 fun _ _ z => z).mono (Pin.refl _ _) (Ext.refl xl.ok) fun es2 env2 k2 us Z3 H2 Fv F2 y1 y2 y3 _ => ⟨es2, env2, Z3, Fv, F2, y1, y2, y3, k2⟩))) ?_
  rintro us s2 ⟨vs2, H2, I2p, r2, es2, env2, Z3, Fv, F2, x3, res, rd3, w3⟩
  obtain ⟨_, d, hg2, w3⟩ := lamR_w w3
  have hgm := hg2 f c' (X.env.qual ++ "<lambda>") vs
  obtain ⟨pf, pnone, _⟩ := I2p.pin (f, _) (List.mem_append_right _ List.mem_cons_self)
  have pk2 : ∀ q ∈ X.pn ++ pins, s2.heap.get? q.1 = some q.2 ∧ H2 q.1 = none ∧ q.1 ≠ X.env.locals ∧ q.1 ∉ X.fs ∧ ∀ v, q.2.data ≠ .cell v := fun q hq => I2p.pin q (by
    rcases List.mem_append.mp hq with z | z
    · exact List.mem_append_left _ z
    · exact List.mem_append_right _ (List.mem_cons_of_mem _ z))
  have I2 : Inv X pins σ H2 s2 := { I2p with pin := pk2 }
  refine ⟨I2.kIn, ?_⟩
  have x4 := x2.trans x3
  have hus : vs2.length + 1 = ps.length := by
    rw [← res.length]
    unfold gvF at hgm
    simp only at hgm
    split at hgm
    · assumption
    · cases hgm
  have z3 : Z3 c' = some (CodeO c' (X.env.qual ++ "<lambda>")) := x3.zz _ _ zc
  have rds3 : RdL N.C Z3 H2 ds vs [] := rds2.frozen x3.zz H2
  have okv : Ok N.C.T Z3 H2 Fv := x3.ok.sub (nodup_left x3.ok.nd) fun b hb => List.mem_append_left _ hb
  have e2 : gvF ps.length n gb (mb (setsE (List.replicate X.N.length none) caps ds)) (.fnc f c' (X.env.qual ++ "<lambda>") ds vs :: es2) = fnOf n (List.replicate ps.length false) (gb (.fnc f c' (X.env.qual ++ "<lambda>") ds vs) (mb (setsE (List.replicate X.N.length none) caps ds))) (.fnc f c' (X.env.qual ++ "<lambda>") ds vs :: es2) := if_pos (by rw [res.length]; exact hus)
  have sp2 : spM N.C false (List.replicate ps.length false) (fnOf n (List.replicate ps.length false) (gb (.fnc f c' (X.env.qual ++ "<lambda>") ds vs) (mb (setsE (List.replicate X.N.length none) caps ds)))) (.ref f :: vs2) H2 Q E0 := by
    refine ⟨.fnc f c' (X.env.qual ++ "<lambda>") ds vs :: es2, Z3, Fv, by rw [List.length_cons, List.length_replicate, hus], ?_, okv, ?_⟩
    · rw [RdL]
      refine ⟨.ref f, vs2, [], Fv, rfl, rfl, ?_, res⟩
      rw [RdV]
      exact ⟨rfl, rfl, z3, rds3⟩
    · rw [← e2, hgm]
      intro v Z4 H4 Fw Fi y rv _
      have y2 := y.frame x3.ok
      refine w3 v Z4 H4 Fw F2 ((x4.trans y2).sub ?_ ?_) rv (y.heldE (fun b hb z => x3.ok.disj b z hb) rd3) fun z => by cases z
      · have := y2.ok.nd
        rw [List.append_assoc] at this
        refine List.nodup_append.mpr ⟨nodup_left this, nodup_right (nodup_right this), fun b hb b2 hb2 e => ?_⟩
        exact (List.nodup_append.mp this).2.2 b hb b2 (List.mem_append_right _ hb2) e
      · intro b hb
        rw [List.append_assoc]
        rcases List.mem_append.mp hb with z | z
        · exact List.mem_append_left _ z
        · exact List.mem_append_right _ (List.mem_append_right _ z)
  have ul : (.ref f :: us : List Value).length = ps.length := by rw [List.length_cons, ← r2.length, hus]
  have run : codeAny (model X.prog X.w) X.A (.call (.ref g) ⟨.ref f :: us, []⟩) (CR CX0 X.stack X.prog X.w H2 s2 Q E0) s2 := by
    have bb := hb s2 (.ref f :: us) I2.kIn (by rw [List.append_nil]; exact ul)
    rw [List.append_nil] at bb
    refine LamX.run_ofS (N := Ng) (ps := ps) (us := .ref f :: us) (vs := .ref f :: vs2) (k := k) lk hcg Sg (hr.r.mono hk) I2.env0 bb (.cons rfl r2) (by rw [List.length_cons, hus]) fun _ => ?_
    have rr : Rm k (X.A.deeper (envOfC x (defScope st) s2.heap.objs.size g cdv)) := (hr.mono hk).deeper _
    obtain ⟨t, ht, hmS⟩ := hgb X.A X.stack s2 H2 (.fnc f c' (X.env.qual ++ "<lambda>") ds vs) (mb (setsE (List.replicate X.N.length none) caps ds)) rr fun W pn xe p1 p2 tk =>
      q_act (k := kb) hK I2 L pf pnone hfr (hbind _ _ _ _ _) tk (rr.mono hkb) (fun A outer s H E hr2 tk2 => hbody f c' A outer s H E hr2 tk2) at3 hNg hva hd hcd
    exact ⟨t, ht.nox, spM_run (io := List.replicate ps.length false) (by rw [List.length_replicate]; exact hNn) (by rw [pin_no]; exact hmS) sp2⟩
  apply wpAny_call
  apply codeAny_mono run
  intro r s3 hq
  match r, hq with
  | .ok (.ret u), hq => exact I2.after hq
end
end Mi
set_option maxHeartbeats 4000000
namespace Mi
open PySem PySem.Spec PyProof.Rows L2 RZ Ov PpSet
open LamX (CodeO Tabs TabS TabB)
/-! ### the end of a law that makes lambdas -/
/-- the places of the tables -/
abbrev tbs (cs : List (Addr × Addr)) : List Addr := cs.map (·.2)
/-- nothing is known but the script and the empty tables -/
structure Only2 (cs : List (Addr × Addr)) (H : Hp) : Prop where
  tab : ∀ p ∈ cs, H p.2 = some (.tbl #[])
  els : ∀ b, H b = none ∨ b ∈ tbs cs ∨ ∃ o xs, H b = some (.frz o (.lst xs))
theorem lawGT {P : Program} {w : World} {K : PySem.W.Frag} {mg mb : Str → Option Value} {k : Nat} {fa a : Addr} {cs : List (Addr × Addr)} {fd : FuncData} {x : Str} {sp : Sp} {s1 : Shared} {vs : List Value} {ns : List Int}
    (kx : K.In s1.heap) (hns : s1.heap.Ns mainGlobals mg) (hb : s1.heap.Ns builtinsNs mb) (hbb : ∀ x : Str, x ≠ "__name__" → mb x = bootBuiltins x) (hlim : s1.heap.NoLimit) (hg : s1.gens = #[])
    (ht : ∀ p ∈ cs, s1.heap.get? p.2 = some { cls := .none, data := .fields #[] }) (nt : ∀ p ∈ cs, K.lookup p.2 = none) (cd : ∀ p ∈ cs, PySem.W.CodeHd s1.heap p.1 p.2)
    (hbm : ∃ (bm : Addr) (ob : Obj), mg "__builtins__" = some (.ref bm) ∧ bm ≠ builtinsNs ∧ s1.heap.get? bm = some ob ∧ ob.cls = .type "module" ∧ ob.dict = some builtinsNs ∧ ob.data = .plain)
    (ha : s1.heap.get? a = some { cls := .type "list", data := .seq vs.toArray }) (hi : IntsAre vs ns) (hl : ns.length ≤ sizeLine) (hr : Rm k callerA)
    (F : ∀ base : Heap, K.In base → base.Ns mainGlobals mg → (∀ p ∈ cs, TabB base mg p.1 p.2) → FnG P w K mg base CX0 k fa fd [x] sp)
    (hbind : ∀ (s : Shared) (u : Value), BindsTo s fd ⟨[u], []⟩ [(x, u)])
    (hsp : ∀ H : Hp, Only2 cs H → SqL K H a (ns.map V.int) → sp [.ref a] H (fun v _ => v = .bl true) E0) :
    codeAny (model P w) callerA (.call (.ref fa) ⟨[.ref a], []⟩) (fun r s' => r = .ok (.ret (.bool true)) ∧ OldK s1.heap s'.heap ∧ s'.os = s1.os ∧ AllBare s'.gens) s1 := by
  have rv := vals_ints hi
  have atT : ∀ b ∈ tbs cs, s1.heap.get? b = some { cls := .none, data := .fields #[] } := by
    rintro b hb
    obtain ⟨p, hp, rfl⟩ := List.mem_map.mp hb
    exact ht p hp
  have naT : a ∉ tbs cs := by
    intro z
    have := atT a z
    rw [ha] at this
    cases this
  have key : ∀ H : Hp, Only2 cs H → SqL K H a (ns.map V.int) → HOk P w H s1.heap → (∀ b, H b ≠ none → b = a ∨ b ∈ tbs cs) → (H a ≠ none → K.lookup a = none) →
      codeAny (model P w) callerA (.call (.ref fa) ⟨[.ref a], []⟩) (fun r s' => r = .ok (.ret (.bool true)) ∧ OldK s1.heap s'.heap ∧ s'.os = s1.os ∧ AllBare s'.gens) s1 := by
    intro H hO hS hok hA hK
    -- what is neither a list nor an empty record is not tracked
    have free : ∀ {b : Addr} {o : Obj}, s1.heap.get? b = some o → (∀ its n, o.data ≠ .seq its n) → o.data ≠ .fields #[] → H b = none := by
      intro b o e n1 n2
      cases q : H b with
      | none => rfl
      | some u =>
        exfalso
        rcases hA b (by simp [q]) with z | z
        · subst z
          rw [ha] at e
          cases e
          exact n1 _ _ rfl
        · rw [atT b z] at e
          cases e
          exact n2 rfl
    have nsK : ∀ {b : Addr} {m : Str → Option Value}, s1.heap.Ns b m → (hidT s1.heap H).Ns b m := by
      rintro b m ⟨o, es, ep, e, d, r⟩
      exact ⟨o, es, ep, hidT_get e (free e (by rw [d]; intro _ _ z; cases z) (by rw [d]; intro z; cases z)), d, r⟩
    have kb : K.In (hidT s1.heap H) := by
      intro b o e
      refine hidT_get (kx b o e) ?_
      cases q : H b with
      | none => rfl
      | some u =>
        exfalso
        rcases hA b (by simp [q]) with z | z
        · subst z
          rw [hK (by simp [q])] at e
          cases e
        · obtain ⟨p, hp, rfl⟩ := List.mem_map.mp z
          rw [nt p hp] at e
          cases e
    have hM : Mod K mg (hidT s1.heap H) := ⟨kb, nsK hns, ⟨mb, nsK hb, hbb⟩, let ⟨mc, h1, h2⟩ := hlim; ⟨mc, nsK h1, h2⟩⟩
    have tb : ∀ p ∈ cs, TabB (hidT s1.heap H) mg p.1 p.2 := by
      intro p hp
      have hP := ht p hp
      refine ⟨?_, ?_, ?_⟩
      · obtain ⟨o, us, file, tf, flags, tg, inF, text, tt, e1, r1, r2, r3, rest⟩ := cd p hp
        refine ⟨o, us, file, tf, flags, tg, inF, text, tt, hidT_get e1 (free e1 (by rw [r2]; intro _ _ z; cases z) ?_), r1, r2, r3, rest⟩
        rw [r2]
        intro z
        cases z
        simp at r3
      · obtain ⟨bm, ob, b1, b2, b3, b4, b5, b6⟩ := hbm
        refine ⟨bm, ob, b1, b2, ?_, ?_, hidT_get b3 (free b3 (by rw [b6]; intro _ _ z; cases z) (by rw [b6]; intro z; cases z)), b4, b5, b6⟩
        · rintro rfl
          obtain ⟨o, es, ep, e, d, _⟩ := hns
          rw [e] at b3
          cases b3
          rw [b6] at d
          cases d
        · rintro rfl
          rw [hP] at b3
          cases b3
          cases b6
      · intro z
        obtain ⟨o, es, ep, e, d, _⟩ := hns
        rw [z, hP] at e
        cases e
        cases d
    have e0 : Env0 P w K mg (hidT s1.heap H) callerA [] s1 H := by
      refine ⟨rfl, hM, fun b o e => of_hidT e, Nat.le_of_eq (hidT_size _ _), trivial, ?_, hok, .of_eq hg⟩
      intro b hb
      exact absurd (show b ∈ ([] : List Addr) from hb) List.not_mem_nil
    have run := (F _ kb (nsK hns) tb).run callerA [] s1 H ⟨[.ref a], []⟩ [.ref a] [.ref a] _ _ hr e0 (hbind s1 (.ref a)) (.cons rfl .nil) (hsp H hO hS)
    refine codeAny_mono run ?_
    intro r s' h
    match r, h with
    | .ok (.ret u), h =>
      obtain ⟨v, H', os, bare, un, hok', r', q⟩ := h
      obtain rfl : v = .bl true := q
      obtain rfl : u = Value.bool true := r'
      have keep : ∀ b o, b ∉ tbs cs → s1.heap.get? b = some o → s'.heap.get? b = some o := by
        intro b o nb e
        rcases hO.els b with z | z | ⟨ob, xs, z⟩
        · exact un.keep b o e z (fun y => absurd (show b ∈ ([] : List Addr) from y) List.not_mem_nil) List.not_mem_nil
        · exact absurd z nb
        · obtain ⟨e1, _⟩ := hok b _ z
          obtain ⟨e2, _⟩ := hok' b _ (un.frzs b ob _ z)
          rw [e] at e1
          cases e1
          exact e2
      have grow : ∀ p ∈ cs, ∃ more : Array Value, s'.heap.get? p.2 = some { cls := .none, data := .fields more } := by
        intro p hp
        obtain ⟨more, z⟩ := un.tbls p.2 #[] (hO.tab p hp)
        exact ⟨_, hok' p.2 _ z⟩
      refine ⟨rfl, ⟨?_, ?_⟩, os, bare⟩
      · intro b o e
        by_cases hb : b ∈ tbs cs
        · obtain ⟨p, hp, rfl⟩ := List.mem_map.mp hb
          obtain ⟨more, hm⟩ := grow p hp
          rw [ht p hp] at e
          cases e
          exact .inr (.inl ⟨((cd p hp).tab (ht p hp)).isCodeTable, rfl, #[], more, rfl, by rw [Array.empty_append]; exact hm⟩)
        · exact .inl (keep b o hb e)
      · intro b o e
        by_cases hb : b ∈ tbs cs
        · obtain ⟨p, hp, rfl⟩ := List.mem_map.mp hb
          obtain ⟨more, hm⟩ := grow p hp
          exact ⟨_, hm⟩
        · exact ⟨o, keep b o hb e⟩
  cases hk : K.lookup a with
  | some o =>
    have e := kx a o hk
    rw [ha] at e
    cases e
    refine key (fun b => if b ∈ tbs cs then some (.tbl #[]) else none) ⟨fun p hp => if_pos (List.mem_map_of_mem hp), fun b => ?_⟩ (.inr ⟨_, vs.toArray, _, hk, rfl, rfl, rfl, by rw [List.size_toArray, hi.length]; exact hl, by simpa using rv⟩) ?_ ?_ ?_
    · by_cases q : b ∈ tbs cs
      · exact .inr (.inl q)
      · exact .inl (if_neg q)
    · intro b u z
      by_cases q : b ∈ tbs cs
      · cases (if_pos q).symm.trans z
        exact atT b q
      · cases (if_neg q).symm.trans z
    · intro b z
      by_cases q : b ∈ tbs cs
      · exact .inr q
      · exact absurd (if_neg q) z
    · intro z
      exact absurd (if_neg naT) z
  | none =>
    refine key (fun b => if b = a then some (.frz { cls := .type "list", data := .seq vs.toArray } (.lst (ns.map V.int))) else if b ∈ tbs cs then some (.tbl #[]) else none) ⟨fun p hp => ?_, fun b => ?_⟩
      (.inl (.inr ⟨{ cls := .type "list", data := .seq vs.toArray }, if_pos rfl⟩)) ?_ ?_ (fun _ => hk)
    · have hp2 : p.2 ∈ tbs cs := List.mem_map_of_mem hp
      have ne : p.2 ≠ a := fun z => naT (by rw [← z]; exact hp2)
      simp only [if_neg ne, if_pos hp2]
    · by_cases q : b = a
      · exact .inr (.inr ⟨_, _, if_pos q⟩)
      · by_cases q2 : b ∈ tbs cs
        · exact .inr (.inl q2)
        · exact .inl (by simp only [if_neg q, if_neg q2])
    · intro b u z
      by_cases q : b = a
      · cases (if_pos q).symm.trans z
        subst q
        exact ⟨ha, by rw [List.length_map]; exact hl, vs, _, rv, ha⟩
      · have z2 := (if_neg q).symm.trans z
        by_cases q2 : b ∈ tbs cs
        · cases (if_pos q2).symm.trans z2
          exact atT b q2
        · cases (if_neg q2).symm.trans z2
    · intro b z
      by_cases q : b = a
      · exact .inl q
      · by_cases q2 : b ∈ tbs cs
        · exact .inr q2
        · exact absurd (by simp only [if_neg q, if_neg q2]) z
/-- as spLaw, the tables in Ω -/
def spLawT (K : PySem.W.Frag) (cs : List (Addr × Addr)) : Sp := fun vs H Q _ => ∃ (a : Addr) (ns : List Int), vs = [.ref a] ∧ Only2 cs H ∧ SqL K H a (ns.map V.int) ∧ ns.length ≤ 63 ∧ ∀ H', Q (.bl true) H'
theorem walkGT {l : PySem.W.OpenLaw} {q : Program} {loose : List Str} {XP : (Str → Option Value) → Heap → Prop} {YP : World → Heap → Prop} {d : DefRec} {K : Params → PySem.W.Frag} {x : Str} (hn : l.most = some 63) (hdf : d.params.defaults = [])
    (hY : ∀ (w : World) (h : Heap), YP w h → (K w.params).In h)
    (F : ∀ (w : World) (mg : Str → Option Value) (fa : Addr) (h : Heap), YP w h → (K w.params).In h → h.Ns mainGlobals mg → mg d.name = some (.ref fa) →
      ∃ (fd : FuncData) (cs : List (Addr × Addr)), (∀ p ∈ cs, h.get? p.2 = some { cls := .none, data := .fields #[] }) ∧ (∀ p ∈ cs, (K w.params).lookup p.2 = none) ∧ (∀ p ∈ cs, PySem.W.CodeHd h p.1 p.2) ∧ (∀ (s : Shared) (u : Value), BindsTo s fd ⟨[u], []⟩ [(x, u)]) ∧
        ∀ base : Heap, (K w.params).In base → base.Ns mainGlobals mg → (∀ p ∈ cs, TabB base mg p.1 p.2) → FnG l.prog w (K w.params) mg base CX0 30 fa fd [x] (spLawT (K w.params) cs)) :
    PySem.W.WalkO q loose XP YP l.row.toRowW d [] (fun f vs => PySem.call f vs) := by
  refine Att.attach_callB hn hdf ?_
  intro w s₀ s₁ mg mb fa o pm cd doc a vs ns G Y ho hd hcd hmg hobj hints hlen _ hg
  have kx := hY w _ Y
  obtain ⟨fd, cs, h1, h2, h3, hb, hF⟩ := F w mg fa _ Y kx G.T.g hmg
  refine lawGT kx G.T.g G.T.b G.T.builtins G.T.nolimit hg h1 h2 h3 G.T.bmain hobj hints (Nat.le_trans hlen (by decide)) room_caller hF hb ?_
  intro H hO hS
  exact ⟨a, ns, rfl, hO, hS, hlen, fun _ => rfl⟩
section
variable {P : Program} {w : World} {K : PySem.W.Frag} {mg : Str → Option Value} {base : Heap} {cls : String → Option Addr} {Ω : List (Addr × Str)} {k n : Nat} {stm : Stmt} {f : Addr} {fd : FuncData} {x : Str} {ps Ns : List Str} {io : List Bool} {m : MS}
/-- a def that makes lambdas: its code object at c, the table at t -/
structure MakL (K : PySem.W.Frag) (mg : Str → Option Value) (base : Heap) (Ω : List (Addr × Str)) (x : Str) (stm : Stmt) (f : Addr) (fd : FuncData) (c t : Addr) : Prop where
  fn : ∃ (oc : Value) (od : Option Addr) (kV doc pm : Value) (an : Option Addr) (ct : Value) (osl : Array (Option Value)), fd = PySem.W.fnOf x x (defArgs stm) (defBody stm) (defScope stm) .none kV doc pm an (.ref c) ct ∧
    K.lookup f = some ⟨oc, od, .func fd, osl⟩ ∧ PySem.W.codeIn K (.ref c) x = true
  mgf : mg x = some (.ref f)
  kp : PySem.W.keepIn K (.ref f) = true
  tb : TabB base mg c t
  hm : (t, lamQ x) ∈ Ω
  hu : ∀ q ∈ Ω, q.1 = t → q.2 = lamQ x
/-- .. and its body -/
def QBodyL (P : Program) (w : World) (K : PySem.W.Frag) (mg : Str → Option Value) (base : Heap) (cls : String → Option Addr) (Ω : List (Addr × Str)) (k : Nat) (qual : Str) (stm : Stmt) (f c : Addr) (Ns : List Str) (io : List Bool) (m : MS) : Prop :=
  ∀ (A : Around) (outer : List PySem.Env) (s : Shared) (H : Hp) (E : XK), Rm k (A.deeper (envOfC qual (defScope stm) s.heap.objs.size f (.ref c))) →
    QSs (cxOf CX0 P w K mg base Ns qual (defScope stm) f (.ref c) A outer s H E).nox ⟨⟨K, cls, P, w, Ω⟩, none, pinOf io 0⟩ (defBody stm) m
theorem fnG_ML {c t : Addr} (F : MakL K mg base Ω x stm f fd c t) (S : FnScope Ns ps (defScope stm)) (hio : io.length = ps.length) (hn : Ns.length = io.length + n) (h : QBodyL P w K mg base cls Ω k x stm f c Ns io m) :
    FnG P w K mg base CX0 (k + 1) f fd ps (spM ⟨K, cls, P, w, Ω⟩ false io (fnOf n io m)) := by
  obtain ⟨oc, od, kV, doc, pm, an, ct, osl, rfl, lk, hcd⟩ := F.fn
  refine fnG_of lk hcd S (spM_len hio) fun A outer s H vs Q E hr hs => ?_
  obtain ⟨t, ht, hm⟩ := h A outer s H E hr
  exact ⟨t, ht.nox, spM_run hn hm hs⟩
theorem cal_ML {c t : Addr} (F : MakL K mg base Ω x stm f fd c t) (b : Binds K fd ps []) (S : FnScope Ns ps (defScope stm)) (hio : io.length = ps.length) (hn : Ns.length = io.length + n) (h : QBodyL P w K mg base cls Ω k x stm f c Ns io m) :
    Cal P w K mg base CX0 (k + 1) x ps (spM ⟨K, cls, P, w, Ω⟩ false io (fnOf n io m)) :=
  ⟨f, fd, fnG_ML F S hio hn h, F.mgf, F.kp, b, let ⟨oc, od, _, _, _, _, _, osl, _, h, _⟩ := F.fn; ⟨oc, od, osl, h⟩⟩
theorem MakL.binds {c t : Addr} (F : MakL K mg base Ω x stm f fd c t) (h : ∀ (kV doc pm : Value) (an : Option Addr) (ct : Value) (us : List Value), us.length = ps.length → bindArgs (PySem.W.fnOf x x (defArgs stm) (defBody stm) (defScope stm) .none kV doc pm an (.ref c) ct) ⟨us, []⟩ = pure (ps.zip us)) : Binds K fd ps [] := by
  obtain ⟨oc, od, kV, doc, pm, an, ct, osl, rfl, lk, hcd⟩ := F.fn
  intro s us _ hl
  rw [List.append_nil] at hl ⊢
  exact .of_eq (h kV doc pm an ct us hl)
/-- the law itself -/
theorem law_MT {cs : List (Addr × Addr)} {f0 : Fun} (hΩ : ∀ p ∈ Ω, p.1 ∈ tbs cs) (c : FnG P w K mg base CX0 k f fd ["_law_script"] (spM ⟨K, cls, P, w, Ω⟩ false [false] f0)) (h : ∀ ns : List Int, ns.length ≤ 63 → f0 [.scr (ns.map .int)] = .ok (.bl true) []) : FnG P w K mg base CX0 k f fd ["_law_script"] (spLawT K cs) := by
  refine ⟨fun vs H Q E hs => ?_, fun A outer s H args us vs Q E hr e0 hb rv hs => ?_⟩
  · obtain ⟨a, ns, rfl, _⟩ := hs
    rfl
  · obtain ⟨a, ns, rfl, hO, hS, hl, q⟩ := hs
    have tb : Tabs Ω H := fun p hp => by
      obtain ⟨r, hr, e⟩ := List.mem_map.mp (hΩ p hp)
      exact .nil (by rw [← e]; exact hO.tab r hr)
    refine c.run A outer s H args us [.ref a] Q E hr e0 hb rv ⟨[.scr (ns.map .int)], Zn H, [], rfl, ?_, ok_nilT tb, ?_⟩
    · refine RdL.cons0 ?_ RdL.nil0
      rw [RdV]
      exact ⟨rfl, a, _, rfl, zn_seq hS, RdL.ofInts⟩
    · rw [h ns hl]
      intro v Z' H' Fv Fi x rvv ri
      rw [rvv.blI]
      exact q H'
end
/-! ### the words of the walk -/
section
variable {X : Cx} {N : Cn} {A : Around} {outer : List PySem.Env} {s : Shared} {H : Hp} {E : XK} {scope : Scope} {f c a : Addr} {pn : List (Addr × Obj)} {xe : Value → Shared → Prop} {W : WX} {px : Option WX} {pin : List Nat} {L : List String}
theorem Ag.su (ag : Ag X N) : Ag (suT X a) N := ⟨ag.K, ag.P, ag.w⟩
theorem Ag.tr (ag : Ag X N) : Ag (X.tr pn xe) ⟨N.C, px, N.pin⟩ := ⟨ag.K, ag.P, ag.w⟩
/-- the class that a clause names -/
def HcT (K : PySem.W.Frag) (mg : Str → Option Value) (cls : String → Option Addr) (L : List String) (t : String) : Prop := ∃ cv, mg (PySem.Str.ofString t) = some cv ∧ ∀ c Ca, L.contains c = true → cls c = some Ca → PySem.W.exmOne K (.ref Ca) cv = some (isSub c t)
variable {n : Str} {i : Nat} {t : String} {np pos' : Pos} {b₀ : Stmt} {suite : List Stmt} {ms : MS} {rest : List ExceptHandler} {hs : List Hnd}
theorem q_has (i : Nat) (hT : HcT X.K X.mg N.C.cls L t) (hN : X.N.Nodup) (hsu : ∀ a, QSs (suT X a) N (b₀ :: suite) ms) (hr : QH X N L rest hs) (hp : N.px = none := by rfl) (hi : X.N[i]? = some n := by rfl) (hln : X.env.kindOf n = some .local := by rfl) (hg : Gl X (PySem.Str.ofString t) := by rfl) (hd : (PySem.Str.ofString t == ("__debug__" : Str)) = false := by decide) (hpin : gOk [i] N.pin = true := by rfl) :
    QH X N L (.ExceptHandler (some (.Name (PySem.Str.ofString t) np)) (some n) (b₀ :: suite) pos' :: rest) ((t, some i, ms) :: hs) := by
  obtain ⟨cv, h1, h2⟩ := hT
  exact qh_as hp hN hi hln ⟨hg, hd, .inl h1⟩ h2 hsu hr hpin
theorem q_hon (hT : HcT X.K X.mg N.C.cls L t) (hsu : ∀ a, QSs (suT X a) N (b₀ :: suite) ms) (hr : QH X N L rest hs) (hp : N.px = none := by rfl) (hg : Gl X (PySem.Str.ofString t) := by rfl) (hd : (PySem.Str.ofString t == ("__debug__" : Str)) = false := by decide) :
    QH X N L (.ExceptHandler (some (.Name (PySem.Str.ofString t) np)) none (b₀ :: suite) pos' :: rest) ((t, none, ms) :: hs) := by
  obtain ⟨cv, h1, h2⟩ := hT
  exact qh_only hp ⟨hg, hd, .inl h1⟩ h2 hsu hr
end
/-- raise C(v) -/
def ErrT (P : Program) (w : World) (K : PySem.W.Frag) (mg : Str → Option Value) (base : Heap) (cls : String → Option Addr) (c f : String) : Prop := ∃ C, cls c = some C ∧ ErrC P w K mg base (PySem.Str.ofString c) f C
theorem q_rai {X : Cx} {N : Cn} {W : WX} {st : Bool} {j : Nat} {c f : String} {e : Expr} {m : ME} {p pos pos2 : Pos} (ec : ErrT X.prog X.w X.K X.mg X.base N.C.cls c f) (hr : Rm j X.A) (ag : Ag X N) (tk : Takes X W) (he : QE X N st e m) (hp : N.px = some W := by rfl)
    (hk : 2 ≤ j := by decide) (hc : X.calm = true := by rfl) (hg : Gl X (PySem.Str.ofString c) := by rfl) (hdb : (PySem.Str.ofString c == ("__debug__" : Str)) = false := by decide) (hs : starEach [e] X.env = (false, eval e X.env) :: starEach [] X.env := by rfl) (hpl : (backTo pos (starEach [] X.env)).any (·.1) = false := by rfl) :
    QS X N (.Raise (some (.Call (.Name (PySem.Str.ofString c) p) [e] [] pos)) none pos2) (sRaise c f m) := let ⟨C, hC, ec⟩ := ec; qs_raise ec hr ag tk hp hC he hk hc hg hdb hs hpl
/-! {"a": 1} -/
def eD1 (x : Str) (i : Int) : ME := fun env => .ok (.dct true [(.str x, .int i)]) env
/-! for the end -/
theorem allL_nil {cls : String → Option Addr} {Q : String → Addr → Prop} : ∀ c Ca, ([] : List String).contains c = true → cls c = some Ca → Q c Ca := fun c Ca h => by simp at h
theorem allL_cons {cls : String → Option Addr} {Q : String → Addr → Prop} {L : List String} {c0 : String} {A0 : Addr} (h0 : cls c0 = some A0) (q : Q c0 A0) (r : ∀ c Ca, L.contains c = true → cls c = some Ca → Q c Ca) : ∀ c Ca, (c0 :: L).contains c = true → cls c = some Ca → Q c Ca := fun c Ca h hc => by
  rw [List.contains_cons, Bool.or_eq_true] at h
  rcases h with h | h
  · obtain rfl : c = c0 := by simpa using h
    rw [h0] at hc
    cases hc
    exact q
  · exact r c Ca h hc
/-- the table that a code object tells -/
def tabOf (K : PySem.W.Frag) (c : Addr) : Option Addr := match K.lookup c with
  | some o => (match o.data with
    | .fields vs => (match (vs[11]? : Option Value) with
      | some (.ref p) => some p
      | _ => none)
    | _ => none)
  | none => none
end Mi
set_option maxHeartbeats 4000000
set_option maxHeartbeats 4000000
set_option maxHeartbeats 4000000
set_option maxHeartbeats 4000000
namespace Mi
open PySem PySem.Spec PyProof.Rows L2 RZ Ov PpSet
open LamX (CodeO Tabs TabS)
/-! ### errors as values; errors without arguments -/
def eMkN (c : String) : ME := fun env => .ok (.exn c []) env
def eMkX (c f : String) (m : ME) : ME := fun env => (m env).bind fun d e => if fzn d then .ok (.exn c [(f, d)]) e else .no
theorem v_mkN {c : String} {env : Env} : eMkN c env = .ok (.exn c []) env := rfl
end Mi
set_option maxHeartbeats 4000000
namespace Mi
open PySem PySem.Spec PyProof.Rows L2 RZ Ov PpSet
open LamX (CodeO Tabs TabS)
/-! ### methods and classes that may raise -/
/-! ### by the class's name -/
def MetXX (P : Program) (w : World) (K : PySem.W.Frag) (mg : Str → Option Value) (base : Heap) (cls : String → Option Addr) (k : Nat) (cn mn : String) (ps : List Str) (sp : Sp) : Prop := ∃ C, cls cn = some C ∧ Met P w K mg base (L2.CX P w) k C (PySem.Str.ofString mn) ps sp
def MakXX (P : Program) (w : World) (K : PySem.W.Frag) (mg : Str → Option Value) (base : Heap) (cls : String → Option Addr) (k : Nat) (cn : String) (ps : List Str) (sp : Sp) : Prop := ∃ C, cls cn = some C ∧ Mak P w K mg base (L2.CX P w) k (PySem.Str.ofString cn) C ps sp
theorem MetXX.calm {P : Program} {w : World} {K : PySem.W.Frag} {mg : Str → Option Value} {base : Heap} {cls : String → Option Addr} {k : Nat} {cn mn : String} {ps : List Str} {C : Ct} {io : List Bool} {fn : Fun} (c : MetXX P w K mg base cls k cn mn ps (spM C true io fn)) : MetX P w K mg base cls k cn mn ps (spM C false io fn) := let ⟨D, h, m⟩ := c; ⟨D, h, Met.calm m⟩
theorem MakXX.calm {P : Program} {w : World} {K : PySem.W.Frag} {mg : Str → Option Value} {base : Heap} {cls : String → Option Addr} {k : Nat} {cn : String} {ps : List Str} {C : Ct} {io : List Bool} {fn : Fun} (c : MakXX P w K mg base cls k cn ps (spM C true io fn)) : MakX P w K mg base cls k cn ps (spM C false io fn) := let ⟨D, h, m⟩ := c; ⟨D, h, Mak.calm m⟩
end Mi
set_option maxHeartbeats 4000000
namespace Mi
open PySem PySem.Spec PyProof.Rows L2 RZ Ov PpSet
/-! ### methods of texts, int(text), f".." -/
def eM1 (f : Str → D → Option D) (m n : ME) : ME := fun env => (m env).bind fun d e => match d with
  | .str a => (n e).bind fun d' e => lift (f a d') e
  | _ => .no
def FnS1 (C : Ct) (r : V → List V → Hp → VK → Prop) (f : Str → D → Option D) : Prop := ∀ a d v Fd Z H F Q e, Ok C.T Z H F → RdV C Z H d v Fd → f a d = some e → Post C Z H F e Q → r (.str a) [v] H Q
section
variable {N : Cn} {s1 s2 : Bool} {t u : TE} {m n : ME}
theorem re_m1 {r : V → List V → Hp → VK → Prop} {f : Str → D → Option D} (hf : FnS1 N.C r f) (h : RefT N s1 t m) (hu : RefT N s2 u n) : RefE N (s1 && s2) (tM1 r t u) (eM1 f m n) := fun env σ Z H F Q o re w => by
  refine h env σ Z H F _ o re (w.bind.mono (Pin.refl _ _) (Ext.refl o) ?_)
  intro d env1 k v Z1 H1 Fd F1 x1 rd r1 sm1
  cases d with
  | str a =>
    obtain rfl := rd.strI
    refine ⟨⟨a, rfl⟩, hu env1 σ Z1 H1 F1 _ x1.ok r1 ((Wp.bind (k.mono (Pin.refl _ _) x1 fun _ _ z => z)).mono (Pin.refl _ _) (Ext.refl x1.ok) ?_)⟩
    intro d2 env2 k2 v2 Z2 H2 Fd2 F2 x2 rd2 r2 sm2
    obtain ⟨e, he⟩ := wp_lift k2
    exact hf a d2 v2 Fd2 Z2 H2 F2 Q e x2.ok rd2 he (post_end (x1.trans x2) r2 (fun z => by rw [Bool.and_eq_true] at z; exact (sm1 z.1).trans (sm2 z.2)) he k2)
  | _ => exact k.elim
end
/-- x.split(sep) -/
def fSplit (a : Str) : D → Option D
  | .str b => if b.length ≠ 0 ∧ a.length + 2 ≤ sizeLine then some (.lst true ((Txt.split a b).map .str)) else none
  | _ => none
def rSplit : V → List V → Hp → VK → Prop := fun x xs H Q => ∃ a b, x = .str a ∧ xs = [.str b] ∧ (b.length == 0) = false ∧ a.length + 2 ≤ sizeLine ∧ rNewStrs (Txt.split a b) H Q
theorem rdL_strs {C : Ct} {Z H : Hp} : ∀ {ys : List Str}, RdL C Z H (ys.map D.str) (ys.map V.str) []
  | [] => by rw [List.map_nil, List.map_nil, RdL]; exact ⟨rfl, rfl⟩
  | y :: r => by
    rw [List.map_cons, List.map_cons, RdL]
    exact ⟨_, _, [], [], rfl, rfl, rd_str, rdL_strs⟩
theorem f_split {C : Ct} : FnS1 C rSplit fSplit := by
  intro a d v Fd Z H F Q e o rd hf p
  unfold fSplit at hf
  split at hf
  · rename_i b
    split at hf
    · rename_i hz
      cases hf
      obtain rfl := rd.strI
      exact ⟨a, b, rfl, rfl, by simpa using hz.1, hz.2, fun p' hp => post_lst o p hp rdL_strs⟩
    · cases hf
  · cases hf
/-- x.strip(chars) -/
def fStripC (a : Str) : D → Option D
  | .str b => if a.length ≤ sizeLine then some (.str (Txt.stripChars a b)) else none
  | _ => none
def rStripC : V → List V → Hp → VK → Prop := fun x xs H Q => ∃ a b, x = .str a ∧ xs = [.str b] ∧ a.length ≤ sizeLine ∧ Q (.str (Txt.stripChars a b)) H
theorem f_stripC {C : Ct} : FnS1 C rStripC fStripC := by
  intro a d v Fd Z H F Q e o rd hf p
  unfold fStripC at hf
  split at hf
  · rename_i b
    split at hf
    · rename_i hz
      cases hf
      obtain rfl := rd.strI
      exact ⟨a, b, rfl, rfl, hz, post_val o p rd_str⟩
    · cases hf
  · cases hf
theorem f_joinV {C : Ct} : FnS1 C (rJoin C.K) fJoin := fun a d v Fd Z H F Q e o rd hf p => f_join (a := a) d v Fd Z H F Q e o rd hf p
/-- int(text) -/
def fIntS : List D → Option D
  | [.str a] => match PySem.intText? a with
    | some n => if a.length ≤ 640 then some (.int n) else none
    | none => none
  | _ => none
def rIntS : List V → Hp → VK → Prop := fun xs H Q => ∃ a n, xs = [.str a] ∧ PySem.intText? a = some n ∧ a.length ≤ 640 ∧ Q (.int n) H
theorem o_intS {X : Cx} : CallR X (.type "int") rIntS := call_int_str
theorem f_intS {C : Ct} : FnL C rIntS fIntS := by
  intro ds vs Z H F Q e o ra hf p
  unfold fIntS at hf
  split at hf
  · rename_i a
    split at hf
    · rename_i n hn
      split at hf
      · rename_i hz
        cases hf
        obtain ⟨v, r, F1, rfl, rv, rn⟩ := ra
        obtain rfl := rv.strI
        have rn : r = [] := rn
        subst rn
        exact ⟨a, n, rfl, hn, hz, post_val o p (by rw [RdV]; exact ⟨rfl, rfl⟩)⟩
      · cases hf
    · cases hf
  · cases hf
section
variable {X : Cx} {N : Cn} {s1 s2 : Bool} {o e : Expr} {m n : ME} {apos pos : Pos}
theorem q_split (ho : QT X N s1 o m) (he : QT X N s2 e n) (hs : starEach [e] X.env = [(false, eval e X.env)] := by rfl) (hbase : attributeBase o "split" X.env (eval o X.env) = eval o X.env := by rfl) (hline : (apos.endLine == pos.line) = true := by rfl) :
    QE X N (s1 && s2) (.Call (.Attribute o "split" apos) [e] [] pos) (eM1 fSplit m n) := by
  obtain ⟨t, p, q⟩ := ho
  obtain ⟨t2, p2, q2⟩ := he
  exact ⟨_, pe_m1 F.slot_str_split F.type_str_split mt_split p p2 hs hbase hline, re_m1 f_split q q2⟩
theorem q_stripC (ho : QT X N s1 o m) (he : QT X N s2 e n) (hs : starEach [e] X.env = [(false, eval e X.env)] := by rfl) (hbase : attributeBase o "strip" X.env (eval o X.env) = eval o X.env := by rfl) (hline : (apos.endLine == pos.line) = true := by rfl) :
    QE X N (s1 && s2) (.Call (.Attribute o "strip" apos) [e] [] pos) (eM1 fStripC m n) := by
  obtain ⟨t, p, q⟩ := ho
  obtain ⟨t2, p2, q2⟩ := he
  exact ⟨_, pe_m1 F.slot_str_strip F.type_str_strip mt_stripChars p p2 hs hbase hline, re_m1 f_stripC q q2⟩
theorem q_joinV (ag : Ag X N) (ho : QT X N s1 o m) (he : QT X N s2 e n) (hs : starEach [e] X.env = [(false, eval e X.env)] := by rfl) (hbase : attributeBase o "join" X.env (eval o X.env) = eval o X.env := by rfl) (hline : (apos.endLine == pos.line) = true := by rfl) :
    QE X N (s1 && s2) (.Call (.Attribute o "join" apos) [e] [] pos) (eM1 fJoin m n) := by
  obtain ⟨t, p, q⟩ := ho
  obtain ⟨t2, p2, q2⟩ := he
  have h := pe_join (X := X) (pos := pos) (apos := apos) p p2 hs hbase hline
  rw [ag.K] at h
  exact ⟨_, h, re_m1 f_joinV q q2⟩
end
/-! ### x[::-1] of a text -/
def revS (x : Str) : Str := ⟨((Builtin.Str.strSliceIndices none none (-1) x.length).filterMap (x.cps[·]?)).toArray⟩
def fRevS : D → Option D
  | .str x => if (revS x).length ≤ sizeLine then some (.str (revS x)) else none
  | _ => none
def rRevS : V → Hp → VK → Prop := fun x H Q => ∃ z, x = .str z ∧ (revS z).length ≤ sizeLine ∧ Q (.str (revS z)) H
theorem f_revS {C : Ct} : Fn1 C rRevS fRevS := by
  intro d v Fd Z H F Q e o rd hf p
  unfold fRevS at hf
  split at hf
  · rename_i x
    split at hf
    · rename_i hz
      cases hf
      obtain rfl := rd.strI
      exact ⟨x, rfl, hz, post_val o p rd_str⟩
    · cases hf
  · cases hf
theorem pe_revS {X : Cx} {e : Expr} {te : TE} {k : Nat} {p1 p2 p3 pos : Pos} (he : PE X e te) : PE X (.Subscript e (.Slice none none (some (.UnaryOp .USub (.Constant (.int 1) k p1) p2)) p3) pos) (tUn rRevS te) := by
  refine ⟨fun pins s σ H Q I h => ?_⟩
  refine Subscript_ (thn (he.run pins s σ H _ I h) fun v s1 ⟨x, H1, I1, r1, q1⟩ => ?_)
  obtain ⟨z, rfl, hz, q⟩ := q1
  obtain ⟨t, rfl⟩ := r1
  have st : PO X (some (.UnaryOp .USub (.Constant (.int 1) k p1) p2)) (tPart (tUn (rU fun i => .int (-i)) (tC (.int 1)))) := po_some (pe_un un_neg pe_int)
  refine wpAny_Slice (thn (po_none.run pins s1 σ H1 (fun o H2 => o = none ∧ H2 = H1) I1 ⟨rfl, rfl⟩) fun vl s2 ⟨l, H2, I2, pl, e1, e2⟩ => ?_)
  subst e1 e2
  refine thn (po_none.run pins s2 σ H2 (fun o H3 => o = none ∧ H3 = H2) I2 ⟨rfl, rfl⟩) fun vu s3 ⟨u, H3, I3, pu, e3, e4⟩ => ?_
  subst e3 e4
  refine thn (st.run pins s3 σ H3 (fun o H4 => o = some (-1) ∧ H4 = H3) I3 ⟨1, rfl, -1, rfl, rfl, rfl⟩) fun vs s4 ⟨o, H4, I4, ps, e5, e6⟩ => ?_
  subst e5 e6
  cases pl
  cases pu
  obtain ⟨tk, rfl⟩ : ∃ tk, vs = .int (-1) tk := by cases ps; exact ⟨_, rfl⟩
  have I5 : Inv X pins σ H4 { s4 with heap := s4.heap.push { cls := .type "slice", data := .fields #[.none, .none, .int (-1) tk] } } := I4.kept (t' := s4.toks) fun b ob q => Heap.get?_push_of_some _ q
  show wpAny (model X.prog X.w) X.A (subscriptTail e (.Slice none none (some (.UnaryOp .USub (.Constant (.int 1) k p1) p2)) p3) (.str z t) (.ref s4.heap.objs.size)) (EP X pins σ Q) X.xe { s4 with heap := s4.heap.push { cls := .type "slice", data := .fields #[.none, .none, .int (-1) tk] } }
  refine tail_any (ops := [.str z t, .ref s4.heap.objs.size]) (typeIs_str _ _ _) F.slot_str_getitem.lookup ?_ (by with_unfolding_all rfl)
  refine wpAny_getItem_str_slice (l := none) (u := none) (st := some (-1, tk)) ⟨_, Heap.get?_push_size _ rfl, rfl, rfl⟩ rfl ?_
  have no : ¬ ((((some ((-1 : Int), tk)).map (·.1)).getD 1 == 1 && (slicePicked z none none (some (-1, tk))).length == z.length) = true) := by
    intro q
    rw [Bool.and_eq_true] at q
    exact Bool.false_ne_true q.1
  unfold sliceMade
  rw [if_neg no]
  exact ⟨hz, .str _, H4, I5.tok _, ⟨_, rfl⟩, q⟩
theorem q_revS {X : Cx} {N : Cn} {s1 : Bool} {a : Expr} {m : ME} {k : Nat} {p1 p2 p3 pos : Pos} (ha : QT X N s1 a m) : QE X N s1 (.Subscript a (.Slice none none (some (.UnaryOp .USub (.Constant (.int 1) k p1) p2)) p3) pos) (e1 fRevS m) := by
  obtain ⟨t, p, q⟩ := ha
  exact ⟨_, pe_revS p, re_un f_revS q⟩
/-! ### f".." -/
end Mi
set_option maxHeartbeats 4000000
namespace Mi
open PySem PySem.Spec PyProof.Rows L2 RZ Ov PpSet
noncomputable def ce_l_cells_page_1 : ME :=
  (eL fStrI (lCons (eV 1) lNil))
noncomputable def cp_l_cells_page_1 : ME :=
  (eLc (iSeq (eVk 0)) (gN 1) bYes ce_l_cells_page_1 [1])
noncomputable def b_l_cells_page : MS :=
  (sRet (eIf (bB (e2 fNe2 (eV 0) (eTup lNil))) (e1 (fJoin (PySem.Str.ofString " ")) cp_l_cells_page_1) (eC (.str (PySem.Str.ofString "-")))))
noncomputable def m_l_cells_page : Fun := fnOf 1 [false] b_l_cells_page
noncomputable def ce_format_code_1 : ME :=
  (eL fStrI (lCons (eV 1) lNil))
noncomputable def cp_format_code_1 : ME :=
  (eLc (iSeq (eVk 0)) (gN 1) bYes ce_format_code_1 [1])
noncomputable def b_format_code : MS :=
  (sRet (eIf (bB (e2 fEq2 (eV 0) (eTup lNil))) (eC (.str (PySem.Str.ofString "-"))) (e1 (fJoin (PySem.Str.ofString " ")) cp_format_code_1)))
noncomputable def m_format_code : Fun := fnOf 1 [false] b_format_code
noncomputable def ce_number_in_1 : ME :=
  (e2 fIn (eV 2) (eC (.str (PySem.Str.ofString "0123456789"))))
noncomputable def cp_number_in_1 : ME :=
  (eLc (iStrD (eV 0)) (gN 2) bYes ce_number_in_1 [2])
noncomputable def b_number_in : MS :=
  (sSeq (sIf (bOr (bNot (bB (eChain fLe fLe (eC (.int 1)) (eL fLen (lCons (eV 0) lNil)) (eV 1)))) (bNot (bB (eL fAll (lCons cp_number_in_1 lNil))))) (sRet (eC .non)) sPass)
  (sRet (eIf (bAnd (bB (e2 fEq2 (e2 fIx (eV 0) (eC (.int 0))) (eC (.str (PySem.Str.ofString "0"))))) (bB (e2 fNe2 (eV 0) (eC (.str (PySem.Str.ofString "0")))))) (eC .non) (eL fIntS (lCons (eV 0) lNil)))))
noncomputable def m_number_in : Fun := fnOf 1 [false, false] b_number_in
noncomputable def b_l_number : MS :=
  (sSeq (sIf (bOr (bNot (bB (eChain fLe fLe (eC (.int 1)) (eL fLen (lCons (eV 0) lNil)) (eV 1)))) (bOr (bB (e2 fNe2 (eM1 fStripC (eV 0) (eC (.str (PySem.Str.ofString "0123456789")))) (eC (.str (PySem.Str.ofString ""))))) (bAnd (bB (e2 fGt (eL fLen (lCons (eV 0) lNil)) (eC (.int 1)))) (bB (e2 fEq2 (e2 fIx (eV 0) (eC (.int 0))) (eC (.str (PySem.Str.ofString "0")))))))) (sRet (e1 fNeg (eC (.int 1)))) sPass)
  (sRet (eL fIntS (lCons (eV 0) lNil))))
noncomputable def m_l_number : Fun := fnOf 0 [false, false] b_l_number
noncomputable def ce_l_due_1 : ME :=
  (eChain fLe fLt (eC (.int 0)) (eV 5) (e2 fIx (eV 0) (eC (.int 0))))
noncomputable def cp_l_due_1 : ME :=
  (eLc (iSeq (eVk 3)) (gN 5) bYes ce_l_due_1 [5])
noncomputable def ce_l_due_2 : ME :=
  (eCall m_l_number [.e (eVk 4), .e (eC (.int 6))])
noncomputable def cp_l_due_2 : ME :=
  (eLc (iSeq (eM1 fSplit (e2 fIx (eV 2) (eC (.int 0))) (eC (.str (PySem.Str.ofString " "))))) (gN 4) bYes ce_l_due_2 [4])
noncomputable def b_l_due : MS :=
  (sSeq (sAsg (gN 2) (eM1 fSplit (eV 1) (eC (.str (PySem.Str.ofString "\n")))))
  (sSeq (sAsg (gN 3) (eIf (bB (e2 fEq2 (e2 fIx (eV 2) (eC (.int 0))) (eC (.str (PySem.Str.ofString "-"))))) (eLst lNil) cp_l_due_2))
  (sSeq (sIf (bNot (bB (eL fAll (lCons cp_l_due_1 lNil)))) (sRet (eTup (lCons (eC (.str (PySem.Str.ofString "line"))) (lCons (eC (.int 0)) lNil)))) sPass)
  (sRet (eIf (bB (e2 fGt (eL fLen (lCons (eV 2) lNil)) (eC (.int 1)))) (eTup (lCons (eC (.str (PySem.Str.ofString "line"))) (lCons (eC (.int 1)) lNil))) (eTup (lCons (eC (.str (PySem.Str.ofString "told"))) (lCons (eL fTuple (lCons (eV 3) lNil)) lNil))))))))
noncomputable def m_l_due : Fun := fnOf 4 [false, false] b_l_due
noncomputable def b_l_bent : MS :=
  (sSeq (sPar 2 3 (lCons (eCall m_l_take [.io 0, .e (eC (.int 8))]) (lCons (eCall m_l_take [.io 0, .e (eFk (e2 fAdd (eL fLen (lCons (eV 1) lNil)) (eC (.int 1))))]) lNil)))
  (sSeq (sAsg (gN 4) (eLst (lCons (eC (.str (PySem.Str.ofString " 0123456789-?\n"))) (lCons (eC (.str (PySem.Str.ofString " 0123456789-?abcdefghijklmnopqrstuvwxyzABCXYZ!#$&()*+,./:;<=>\x40[]^_{|}~'\"\n"))) lNil))))
  (sSeq (sPar 5 6 (lCons (eCall m_l_of [.io 0, .e (eK (e2 fIx (eVk 4) (eCall m_l_take [.io 0, .e (eC (.int 2))])))]) (lCons (eK (e2 fIx (eLst (lCons (eC (.str (PySem.Str.ofString " "))) (lCons (eC (.str (PySem.Str.ofString "\n"))) lNil))) (eCall m_l_take [.io 0, .e (eC (.int 2))]))) lNil)))
  (sSeq (sAsg (gN 7) (eM1 fSplit (eV 1) (eV 6)))
  (sSeq (sPar 8 9 (lCons (eCall m_l_take [.io 0, .e (eFk (eL fLen (lCons (eV 7) lNil)))]) (lCons (eCall m_l_take [.io 0, .e (eFk (eL fLen (lCons (eV 7) lNil)))]) lNil)))
  (sSeq (sIf (bB (e2 fLt (eV 2) (eC (.int 2)))) (sRet (e2 fAdd (e2 fAdd (eSl (eV 1) oN (oS (eV 3))) (e2 fMul (eV 5) (eV 2))) (eSl (eV 1) (oS (e2 fSub (e2 fAdd (eV 3) (eC (.int 1))) (eV 2))) oN))) sPass)
  (sSeq (sIf (bB (e2 fEq2 (eV 2) (eC (.int 2)))) (sRet (e2 fAdd (e2 fAdd (eSl (eV 1) oN (oS (eV 3))) (e1 fRevS (eSl (eV 1) (oS (eV 3)) (oS (e2 fAdd (eV 3) (eC (.int 2))))))) (eSl (eV 1) (oS (e2 fAdd (eV 3) (eC (.int 2)))) oN))) sPass)
  (sSeq (sIf (bB (e2 fEq2 (eV 2) (eC (.int 3)))) (sRet (eM1 fJoin (eV 6) (e2 fAdd (eSl (eV 7) oN (oS (eV 8))) (eSl (eV 7) (oS (e2 fAdd (eV 8) (eC (.int 1)))) oN)))) sPass)
  (sSeq (sIf (bB (e2 fEq2 (eV 2) (eC (.int 4)))) (sRet (eM1 fJoin (eV 6) (e2 fAdd (e2 fAdd (eSl (eV 7) oN (oS (eV 8))) (eLst (lCons (eK (e2 fIx (eV 7) (eV 9))) lNil))) (eSl (eV 7) (oS (eV 8)) oN)))) sPass)
  (sSeq (sIf (bB (e2 fEq2 (eV 2) (eC (.int 5)))) (sRet (eM1 fJoin (eV 6) (e2 fAdd (e2 fAdd (eSl (eV 7) oN (oS (eV 8))) (eLst (lCons (eK (e2 fIx (eV 7) (eV 9))) lNil))) (eSl (eV 7) (oS (e2 fAdd (eV 8) (eC (.int 1)))) oN)))) sPass)
  (sSeq (sIf (bB (e2 fEq2 (eV 2) (eC (.int 6)))) (sRet (e2 fAdd (e2 fAdd (eSl (eV 1) oN (oS (eV 3))) (eCall m_l_of [.io 0, .e (eFk (eLst (lCons (eC (.str (PySem.Str.ofString "00"))) (lCons (eC (.str (PySem.Str.ofString "0"))) (lCons (eC (.str (PySem.Str.ofString "1234567"))) (lCons (eC (.str (PySem.Str.ofString "256"))) (lCons (eC (.str (PySem.Str.ofString "\n"))) (lCons (eC (.str (PySem.Str.ofString "  "))) (lCons (eC (.str (PySem.Str.ofString " padding"))) lNil)))))))))])) (eSl (eV 1) (oS (eV 3)) oN))) sPass)
  (sRet (e2 fAdd (e2 fAdd (eSl (eV 1) oN (oS (eV 3))) (eV 5)) (eSl (eV 1) (oS (e2 fAdd (eV 3) (eC (.int 1)))) oN))))))))))))))
noncomputable def m_l_bent : Fun := fnOf 8 [true, false] b_l_bent
noncomputable def b_lines_of : MS :=
  (sSeq (sIf (bNot (bB (e1 (fIsa Kd.isStr) (eV 0)))) (sRaise "ParseError" "line" (eC (.int 0))) sPass)
  (sRet (eM1 fSplit (eV 0) (eC (.str (PySem.Str.ofString "\n"))))))
noncomputable def m_lines_of : Fun := fnOf 0 [false] b_lines_of
noncomputable def ce_code_in_1 : ME :=
  (eCall m_number_in [.e (eVk 3), .e (eC (.int 6))])
noncomputable def cp_code_in_1 : ME :=
  (eLc (iSeq (eM1 fSplit (eV 1) (eC (.str (PySem.Str.ofString " "))))) (gN 3) bYes ce_code_in_1 [3])
noncomputable def b_code_in : MS :=
  (sSeq (sIf (bB (e2 fEq2 (eV 1) (eC (.str (PySem.Str.ofString "-"))))) (sRet (eTup lNil)) sPass)
  (sSeq (sAsg (gN 2) (eL fTuple (lCons cp_code_in_1 lNil)))
  (sRet (eIf (bB (eCall m_is_code [.e (eVk 0), .e (eVk 2)])) (eVk 2) (eC .non)))))
noncomputable def m_code_in : Fun := fnOf 2 [false, false] b_code_in
noncomputable def b_parse_code : MS :=
  (sSeq (sAsg (gN 2) (eCall m_lines_of [.e (eVk 1)]))
  (sSeq (calmS (sAsg (gN 3) (eCall m_code_in [.e (eVk 0), .e (eK (e2 fIx (eV 2) (eC (.int 0))))])))
  (sSeq (sIf (bB (e2 fIs (eV 3) (eC .non))) (sRaise "ParseError" "line" (eC (.int 0))) sPass)
  (sSeq (sIf (bB (e2 fGt (eL fLen (lCons (eV 2) lNil)) (eC (.int 1)))) (sRaise "ParseError" "line" (eC (.int 1))) sPass)
  (sRet (eMv 3))))))
noncomputable def m_parse_code : Fun := fnOf 2 [false, false] b_parse_code
noncomputable def b_l_book : MS :=
  (sRet (eNew "InstructionSet" m_InstructionSet_init [.e (eK (e2 fIx (eV 0) (eC (.int 0)))), .e (eK (e2 fIx (eV 0) (eC (.int 1))))]))
noncomputable def m_l_book : Fun := fnOf 0 [false] b_l_book
noncomputable def b_l_read (v : D) (rb : R D) : MS :=
  (sSeq (sAsg (gN 1) (eTup (lCons (eC (.str (PySem.Str.ofString "none"))) (lCons (eC .non) lNil))))
  (sSeq (sTry ["ParseError"] (sAsg (gN 1) (eTup (lCons (eC (.str (PySem.Str.ofString "told"))) (lCons (eCb v 0 rb) lNil)))) [("ParseError", some 2, (sAsg (gN 1) (eTup (lCons (eC (.str (PySem.Str.ofString "line"))) (lCons (eK (eXf ["ParseError"] "line" (eV 2))) lNil))))), ("OverlapError", none, (sAsg (gN 1) (eTup (lCons (eC (.str (PySem.Str.ofString "other"))) (lCons (eC .non) lNil)))))])
  (sRet (eMv 1))))
noncomputable def m_l_read : R D → Fun := gvF 1 2 b_l_read
noncomputable def lm_l_right_k63_1 : ME :=
  (eCall m_parse_code [.e (eVk 6), .e (eVk 5)])
noncomputable def lb_l_right_k63_1 : MS :=
  (sSeq (sAsg (gN 5) (eCall m_l_bent [.io 0, .e (eVk 3)]))
  (sSeq (sIf (bB (e2 fEq2 (eCall m_l_take [.io 0, .e (eC (.int 3))]) (eC (.int 0)))) (sAsg (gN 5) (eCall m_l_bent [.io 0, .e (eVk 5)])) sPass)
  (sIf (bB (e2 fNe2 (eL fReprV (lCons (eLam [5, 6] 7 lm_l_right_k63_1 m_l_read lNil) lNil)) (eL fReprV (lCons (eCall m_l_due [.e (eVk 1), .e (eVk 5)]) lNil)))) (sRet (eC (.bl false))) sPass)))
noncomputable def lp_l_right_k63_1 : MS :=
  (sFor (iOf rng1 (lCons (eC (.int 12)) lNil)) (gN 4) lb_l_right_k63_1)
noncomputable def b_l_right_k63 : MS :=
  (sSeq (sParN [6, 3] (lCons (eCall m_l_book [.e (eVk 1)]) (lCons (eCall m_l_cells_page [.e (eVk 2)]) lNil)))
  (sSeq (sIf (bB (e2 fNe2 (eL fReprV (lCons (eLst (lCons (eCall m_format_code [.e (eVk 2)]) (lCons (eCall (fKw [0] 1 m_format_code) [.e (eVk 2)]) lNil))) lNil)) (eL fReprV (lCons (eLst (lCons (eVk 3) (lCons (eVk 3) lNil))) lNil)))) (sRet (eC (.bl false))) sPass)
  (sSeq (sIf (bB (e2 fNe2 (eL fReprV (lCons (eLst (lCons (eCall m_parse_code [.e (eVk 6), .e (eVk 3)]) (lCons (eCall (fKw [1, 0] 2 m_parse_code) [.e (eVk 3), .e (eVk 6)]) lNil))) lNil)) (eL fReprV (lCons (eLst (lCons (eVk 2) (lCons (eVk 2) lNil))) lNil)))) (sRet (eC (.bl false))) sPass)
  (sSeq lp_l_right_k63_1
  (sRet (eC (.bl true)))))))
noncomputable def m_l_right_k63 : Fun := fnOf 4 [true, false, false] b_l_right_k63
noncomputable def ce_law_k63_1 : ME :=
  (eCall m_l_right_k63 [.io 2, .e (eVk 3), .e (eVk 6)])
noncomputable def cp_law_k63_1 : ME :=
  (eLc (iSeq (eVk 4)) (gN 6) bYes ce_law_k63_1 [6])
noncomputable def ce_law_k63_2 : ME :=
  (eCall m_l_take [.io 2, .e (eK (e2 fIx (eV 3) (eC (.int 0))))])
noncomputable def cp_law_k63_2 : ME :=
  (eLc (iOf rng1 (lCons (eC (.int 6)) lNil)) (gN 5) bYes ce_law_k63_2 [5])
noncomputable def lb_law_k63_1 : MS :=
  (sSeq (sAsg (gN 2) (eCall m_l_box [.e (eVk 0), .e (eVk 1)]))
  (sSeq (sAsg (gN 3) (eCall m_l_table [.io 2, .e (eFk (eCall m_l_of [.io 2, .e (eFk (eLst (lCons (eC (.int 2)) (lCons (eC (.int 5)) (lCons (eC (.int 12)) (lCons (eC (.int 256)) lNil))))))])), .e (eC (.int 12))]))
  (sSeq (sAsg (gN 4) (eLst (lCons (eTup lNil) (lCons (eCall m_l_bytes [.io 2, .e (eVk 3), .e (eFk (e2 fAdd (eC (.int 1)) (eCall m_l_take [.io 2, .e (eC (.int 5))])))]) (lCons (eCall m_l_bytes [.io 2, .e (eVk 3), .e (eFk (eCall m_l_take [.io 2, .e (eC (.int 41))]))]) lNil)))))
  (sSeq (sExpr (mList (4, none) (lCons (eL fTuple (lCons cp_law_k63_2 lNil)) lNil) fAppend))
  (sIf (bNot (bB (eL fAll (lCons cp_law_k63_1 lNil)))) (sRet (eC (.bl false))) sPass)))))
noncomputable def lp_law_k63_1 : MS :=
  (sFor (iOf rng1 (lCons (eL fMax2 (lCons (eC (.int 1)) (lCons (eL fMin2 (lCons (eC (.int 3)) (lCons (eL fLen (lCons (eV 0) lNil)) lNil))) lNil))) lNil)) (gN 1) lb_law_k63_1)
noncomputable def b_law_k63 : MS :=
  (sSeq lp_law_k63_1
  (sRet (eC (.bl true))))
noncomputable def m_law_k63 : Fun := fnOf 6 [false] b_law_k63
end Mi
set_option maxHeartbeats 4000000
namespace Mi
open PySem PySem.Spec PyProof.Rows L2 RZ Ov PpSet
theorem lenN_1 {α : Type} {us : List α} (h : us.length = 1) : ∃ a0, us = [a0] := match us, h with | [a0], _ => ⟨a0, rfl⟩
theorem lenN_2 {α : Type} {us : List α} (h : us.length = 2) : ∃ a0 a1, us = [a0, a1] := match us, h with | [a0, a1], _ => ⟨a0, a1, rfl⟩
theorem lenN_3 {α : Type} {us : List α} (h : us.length = 3) : ∃ a0 a1 a2, us = [a0, a1, a2] := match us, h with | [a0, a1, a2], _ => ⟨a0, a1, a2, rfl⟩
def top (i : Nat) : Stmt := PySem.Challenge.pw_overlapcode_k63_codes_as_text.main.body.getD i (.Pass ⟨0, 0, 0, 0⟩)
abbrev s_l_box : Stmt := top 28
abbrev n_l_box : List Str := ["_law_script", "_law_k", "_law_cell", "_law_own"]
theorem sc_l_box : FnScope n_l_box ["_law_script", "_law_k"] (defScope s_l_box) := ⟨rfl, rfl, rfl, by decide +kernel, rfl, by decide +kernel, by decide +kernel⟩
abbrev s_l_take : Stmt := top 29
abbrev n_l_take : List Str := ["_law_box_here", "_law_many", "_law_digit", "_law_mixed"]
theorem sc_l_take : FnScope n_l_take ["_law_box_here", "_law_many"] (defScope s_l_take) := ⟨rfl, rfl, rfl, by decide +kernel, rfl, by decide +kernel, by decide +kernel⟩
abbrev s_is_integer : Stmt := top 11
abbrev n_is_integer : List Str := ["value", "low", "high"]
theorem sc_is_integer : FnScope n_is_integer ["value", "low", "high"] (defScope s_is_integer) := ⟨rfl, rfl, rfl, by decide +kernel, rfl, by decide +kernel, by decide +kernel⟩
abbrev s_is_ascending : Stmt := top 12
abbrev n_is_ascending : List Str := ["items", "item", "following"]
theorem sc_is_ascending : FnScope n_is_ascending ["items"] (defScope s_is_ascending) := ⟨rfl, rfl, rfl, by decide +kernel, rfl, by decide +kernel, by decide +kernel⟩
abbrev s_is_name : Stmt := top 13
abbrev n_is_name : List Str := ["value", "char"]
theorem sc_is_name : FnScope n_is_name ["value"] (defScope s_is_name) := ⟨rfl, rfl, rfl, by decide +kernel, rfl, by decide +kernel, by decide +kernel⟩
abbrev s_l_cells_page : Stmt := top 37
abbrev n_l_cells_page : List Str := ["_law_cells", "_law_byte"]
theorem sc_l_cells_page : FnScope n_l_cells_page ["_law_cells"] (defScope s_l_cells_page) := ⟨rfl, rfl, rfl, by decide +kernel, rfl, by decide +kernel, by decide +kernel⟩
abbrev s_format_code : Stmt := top 22
abbrev n_format_code : List Str := ["code", "byte"]
theorem sc_format_code : FnScope n_format_code ["code"] (defScope s_format_code) := ⟨rfl, rfl, rfl, by decide +kernel, rfl, by decide +kernel, by decide +kernel⟩
abbrev s_number_in : Stmt := top 23
abbrev n_number_in : List Str := ["word", "most_digits", "sign"]
theorem sc_number_in : FnScope n_number_in ["word", "most_digits"] (defScope s_number_in) := ⟨rfl, rfl, rfl, by decide +kernel, rfl, by decide +kernel, by decide +kernel⟩
abbrev s_l_number : Stmt := top 34
abbrev n_l_number : List Str := ["_law_word", "_law_most"]
theorem sc_l_number : FnScope n_l_number ["_law_word", "_law_most"] (defScope s_l_number) := ⟨rfl, rfl, rfl, by decide +kernel, rfl, by decide +kernel, by decide +kernel⟩
abbrev s_l_of : Stmt := top 30
abbrev n_l_of : List Str := ["_law_box_here", "_law_some"]
theorem sc_l_of : FnScope n_l_of ["_law_box_here", "_law_some"] (defScope s_l_of) := ⟨rfl, rfl, rfl, by decide +kernel, rfl, by decide +kernel, by decide +kernel⟩
abbrev s_is_instruction : Stmt := top 14
abbrev n_is_instruction : List Str := ["value", "byte_count", "opcode", "name", "length", "is_padding"]
theorem sc_is_instruction : FnScope n_is_instruction ["value", "byte_count"] (defScope s_is_instruction) := ⟨rfl, rfl, rfl, by decide +kernel, rfl, by decide +kernel, by decide +kernel⟩
abbrev s_is_code : Stmt := top 17
abbrev n_is_code : List Str := ["instruction_set", "value", "byte"]
theorem sc_is_code : FnScope n_is_code ["instruction_set", "value"] (defScope s_is_code) := ⟨rfl, rfl, rfl, by decide +kernel, rfl, by decide +kernel, by decide +kernel⟩
abbrev s_l_due : Stmt := top 38
abbrev n_l_due : List Str := ["_law_table_here", "_law_page", "_law_rows", "_law_numbers", "_law_word", "_law_number_here"]
theorem sc_l_due : FnScope n_l_due ["_law_table_here", "_law_page"] (defScope s_l_due) := ⟨rfl, rfl, rfl, by decide +kernel, rfl, by decide +kernel, by decide +kernel⟩
abbrev s_l_table : Stmt := top 31
abbrev n_l_table : List Str := ["_law_box_here", "_law_most_bytes", "_law_longest", "_law_count", "_law_many", "_law_opcodes", "_law_found", "_law_first", "_law_at", "_law_opcode", "_law_letter", "_law_name", "_law_length"]
theorem sc_l_table : FnScope n_l_table ["_law_box_here", "_law_most_bytes", "_law_longest"] (defScope s_l_table) := ⟨rfl, rfl, rfl, by decide +kernel, rfl, by decide +kernel, by decide +kernel⟩
abbrev s_l_bytes : Stmt := top 32
abbrev n_l_bytes : List Str := ["_law_box_here", "_law_table_here", "_law_many", "_law_some", "_law_instruction", "_law_at"]
theorem sc_l_bytes : FnScope n_l_bytes ["_law_box_here", "_law_table_here", "_law_many"] (defScope s_l_bytes) := ⟨rfl, rfl, rfl, by decide +kernel, rfl, by decide +kernel, by decide +kernel⟩
abbrev s_are_instructions : Stmt := top 15
abbrev n_are_instructions : List Str := ["value", "byte_count", "names", "item"]
theorem sc_are_instructions : FnScope n_are_instructions ["value", "byte_count"] (defScope s_are_instructions) := ⟨rfl, rfl, rfl, by decide +kernel, rfl, by decide +kernel, by decide +kernel⟩
abbrev s_l_bent : Stmt := top 35
abbrev n_l_bent : List Str := ["_law_box_here", "_law_page", "_law_way", "_law_at", "_law_signs", "_law_sign", "_law_gap", "_law_parts", "_law_spot", "_law_other"]
theorem sc_l_bent : FnScope n_l_bent ["_law_box_here", "_law_page"] (defScope s_l_bent) := ⟨rfl, rfl, rfl, by decide +kernel, rfl, by decide +kernel, by decide +kernel⟩
abbrev s_lines_of : Stmt := top 25
abbrev n_lines_of : List Str := ["text"]
theorem sc_lines_of : FnScope n_lines_of ["text"] (defScope s_lines_of) := ⟨rfl, rfl, rfl, by decide +kernel, rfl, by decide +kernel, by decide +kernel⟩
abbrev s_code_in : Stmt := top 24
abbrev n_code_in : List Str := ["instruction_set", "line", "found", "word"]
theorem sc_code_in : FnScope n_code_in ["instruction_set", "line"] (defScope s_code_in) := ⟨rfl, rfl, rfl, by decide +kernel, rfl, by decide +kernel, by decide +kernel⟩
abbrev s_InstructionSet_init : Stmt := inClass (top 16) 0
abbrev n_InstructionSet_init : List Str := ["self", "byte_count", "instructions", "instruction"]
theorem sc_InstructionSet_init : FnScope n_InstructionSet_init ["self", "byte_count", "instructions"] (defScope s_InstructionSet_init) := ⟨rfl, rfl, rfl, by decide +kernel, rfl, by decide +kernel, by decide +kernel⟩
abbrev s_parse_code : Stmt := top 26
abbrev n_parse_code : List Str := ["instruction_set", "text", "lines", "found"]
theorem sc_parse_code : FnScope n_parse_code ["instruction_set", "text"] (defScope s_parse_code) := ⟨rfl, rfl, rfl, by decide +kernel, rfl, by decide +kernel, by decide +kernel⟩
abbrev s_l_book : Stmt := top 33
abbrev n_l_book : List Str := ["_law_table_here"]
theorem sc_l_book : FnScope n_l_book ["_law_table_here"] (defScope s_l_book) := ⟨rfl, rfl, rfl, by decide +kernel, rfl, by decide +kernel, by decide +kernel⟩
abbrev s_l_read : Stmt := top 36
abbrev n_l_read : List Str := ["_law_ask", "_law_found", "e"]
theorem sc_l_read : FnScope n_l_read ["_law_ask"] (defScope s_l_read) := ⟨rfl, rfl, rfl, by decide +kernel, rfl, by decide +kernel, by decide +kernel⟩
abbrev s_l_right : Stmt := top 39
abbrev n_l_right : List Str := ["_law_box_here", "_law_table_here", "_law_cells", "_law_page", "_law_turn", "_law_bent_here", "_law_book_here"]
theorem sc_l_right : FnScope n_l_right ["_law_box_here", "_law_table_here", "_law_cells"] (defScope s_l_right) := ⟨rfl, rfl, rfl, by decide +kernel, rfl, by decide +kernel, by decide +kernel⟩
abbrev s_law : Stmt := top 40
abbrev n_law : List Str := ["_law_script", "_law_k", "_law_box_here", "_law_table_here", "_law_some", "_law_at", "_law_cells"]
theorem sc_law : FnScope n_law ["_law_script"] (defScope s_law) := ⟨rfl, rfl, rfl, by decide +kernel, rfl, by decide +kernel, by decide +kernel⟩
structure TX (P : Program) (w : World) (K : PySem.W.Frag) (mg : Str → Option Value) (base : Heap) (cls : String → Option Addr) (Ω : List (Addr × Str)) : Prop where
  blt : Blt mg
  ex : ExcL K cls ["ParseError"]
  h_OverlapError : HcT K mg cls ["ParseError"] "OverlapError"
  h_ParseError : HcT K mg cls ["ParseError"] "ParseError"
  x_line : ∀ c Ca, ["ParseError"].contains c = true → cls c = some Ca → PySem.W.findIn K (.ref Ca) (PySem.Str.ofString "line") = some none
  e_ParseError : ErrT P w K mg base cls "ParseError" "line"
  a_l_box : ∃ f fd, At K mg "_law_box" s_l_box f fd
  a_l_take : ∃ f fd, At K mg "_law_take" s_l_take f fd
  a_is_integer : ∃ f fd, At K mg "is_integer" s_is_integer f fd
  a_is_ascending : ∃ f fd, At K mg "is_ascending" s_is_ascending f fd
  a_is_name : ∃ f fd, At K mg "is_name" s_is_name f fd
  a_l_cells_page : ∃ f fd, At K mg "_law_cells_page" s_l_cells_page f fd
  a_format_code : ∃ f fd, At K mg "format_code" s_format_code f fd
  a_number_in : ∃ f fd, At K mg "number_in" s_number_in f fd
  a_l_number : ∃ f fd, At K mg "_law_number" s_l_number f fd
  a_l_of : ∃ f fd, At K mg "_law_of" s_l_of f fd
  a_is_instruction : ∃ f fd, At K mg "is_instruction" s_is_instruction f fd
  a_is_code : ∃ f fd, At K mg "is_code" s_is_code f fd
  a_l_due : ∃ f fd, At K mg "_law_due" s_l_due f fd
  a_l_table : ∃ f fd, At K mg "_law_table" s_l_table f fd
  a_l_bytes : ∃ f fd, At K mg "_law_bytes" s_l_bytes f fd
  a_are_instructions : ∃ f fd, At K mg "are_instructions" s_are_instructions f fd
  a_l_bent : ∃ f fd, At K mg "_law_bent" s_l_bent f fd
  a_lines_of : ∃ f fd, At K mg "lines_of" s_lines_of f fd
  a_code_in : ∃ f fd, At K mg "code_in" s_code_in f fd
  k_InstructionSet : ∃ C, cls "InstructionSet" = some C ∧ Cls K C ∧ mg "InstructionSet" = some (.ref C) ∧ ∃ f fd, Mk K C f ∧ L2.Fun K "__init__" "InstructionSet.__init__" s_InstructionSet_init f fd
  a_parse_code : ∃ f fd, At K mg "parse_code" s_parse_code f fd
  a_l_book : ∃ f fd, At K mg "_law_book" s_l_book f fd
  a_l_read : ∃ f fd, At K mg "_law_read" s_l_read f fd
  a_l_right : ∃ f fd c t, MakL K mg base Ω "_law_right" s_l_right f fd c t
  c_LONGEST_NAME : ∃ u, mg "LONGEST_NAME" = some u ∧ RelV (.int 8) u
  c_LETTERS : ∃ u, mg "LETTERS" = some u ∧ RelV (.str (PySem.Str.ofString "abcdefghijklmnopqrstuvwxyz")) u
  c_EMPTY : ∃ u, mg "EMPTY" = some u ∧ RelV (.str (PySem.Str.ofString "-")) u
  c_DIGITS : ∃ u, mg "DIGITS" = some u ∧ RelV (.str (PySem.Str.ofString "0123456789")) u
  c_LONGEST_INSTRUCTION : ∃ u, mg "LONGEST_INSTRUCTION" = some u ∧ RelV (.int 12) u
  c_MOST_DIGITS : ∃ u, mg "MOST_DIGITS" = some u ∧ RelV (.int 6) u
  c_LEAST_BYTE_COUNT : ∃ u, mg "LEAST_BYTE_COUNT" = some u ∧ RelV (.int 2) u
  c_GREATEST_BYTE_COUNT : ∃ u, mg "GREATEST_BYTE_COUNT" = some u ∧ RelV (.int 256) u
  f_byte_count : ∀ c ∈ ["InstructionSet"], FldOk ⟨K, cls, P, w, Ω⟩ c "byte_count"
  f_instructions : ∀ c ∈ ["InstructionSet"], FldOk ⟨K, cls, P, w, Ω⟩ c "instructions"
  f_by_opcode : ∀ c ∈ ["InstructionSet"], FldOk ⟨K, cls, P, w, Ω⟩ c "by_opcode"
section
variable {P : Program} {w : World} {K : PySem.W.Frag} {mg : Str → Option Value} {base : Heap} {cls : String → Option Addr} {Ω : List (Addr × Str)}
theorem ok_l_box (T : TX P w K mg base cls Ω) : Cal P w K mg base CX0 1 "_law_box" ["_law_script", "_law_k"] (spM ⟨K, cls, P, w, Ω⟩ false [false, false] m_l_box) := by
  obtain ⟨f, fd, F⟩ := T.a_l_box
  refine cal_M (m := b_l_box) F (F.fn.binds (fun _ _ _ _ _ _ us hl => by
    obtain ⟨_, _, rfl⟩ := lenN_2 hl
    rfl)) sc_l_box rfl rfl ?_
  intro cdv A outer s H E hr
  refine with_ag ⟨rfl, rfl, rfl⟩ fun ag => ?_
  exact (qss_cons (qs_set (i := 2) (q_ifx (q_tcmp op_lt f_lt (qv 1) (QE.t (q_callB (o_len _ ag.K ag.P ag.w) f_len T.blt.b_len PySem.boot_len (qta_cons (qv 0) qta_nil)))) (QT.k (q_ix ag hr.r.units (qv 0) (qv 1))) q_int) sc_l_box.nd)
    (qss_cons (qs_set (i := 3) (q_op (o_mul _ ag.K) f_mul (QE.t (q_op op_mod f_mod (QE.t (q_callB call_abs f_abs T.blt.b_abs (by decide +kernel) (qta_cons (qv 2) qta_nil))) (QE.t (q_op (o_mul _ ag.K) f_mul (QE.t (q_op (o_mul _ ag.K) f_mul (QE.t (q_op (o_mul _ ag.K) f_mul (QE.t (q_op op_pow f_pow (QE.t q_int) (QE.t q_int))) (QE.t (q_op op_pow f_pow (QE.t q_int) (QE.t q_int))))) (QE.t (q_op op_pow f_pow (QE.t q_int) (QE.t q_int))))) (QE.t (q_op op_pow f_pow (QE.t q_int) (QE.t q_int))))))) (QE.t (q_callT call_int1 f_int T.blt.b_int (by decide +kernel) (qta_cons (QE.t (q_cmp op_ge f_ge (QE.t (q_callB call_abs f_abs T.blt.b_abs (by decide +kernel) (qta_cons (qv 2) qta_nil))) (QE.t (q_op op_pow f_pow (QE.t q_int) (QE.t q_int))))) qta_nil)))) sc_l_box.nd)
    (qss_one (qs_ret (q_lst (qa_cons (qvk 3) (qa_cons (q_op op_mod f_mod (QE.t (q_op (o_mul _ ag.K) f_mul (QE.t (q_op (o_add _ ag.K) f_add (QE.t (q_op (o_add _ ag.K) f_add (QE.t (q_op op_mod f_mod (qv 2) (QE.t q_int))) (QE.t (q_op (o_mul _ ag.K) f_mul (QE.t (q_op (o_mul _ ag.K) f_mul (QE.t q_int) (qv 1))) (qv 1))))) (QE.t q_int))) (QE.t q_int))) (QE.t q_int)) (qa_cons q_int qa_nil))))))))
theorem ok_l_take (T : TX P w K mg base cls Ω) : Cal P w K mg base CX0 1 "_law_take" ["_law_box_here", "_law_many"] (spM ⟨K, cls, P, w, Ω⟩ false [true, false] m_l_take) := by
  obtain ⟨f, fd, F⟩ := T.a_l_take
  refine cal_M (m := b_l_take) F (F.fn.binds (fun _ _ _ _ _ _ us hl => by
    obtain ⟨_, _, rfl⟩ := lenN_2 hl
    rfl)) sc_l_take rfl rfl ?_
  intro cdv A outer s H E hr
  refine with_ag ⟨rfl, rfl, rfl⟩ fun ag => ?_
  exact (qss_cons (qs_if (q_tcmp op_gt f_gt (q_ix ag hr.r.units (qv 0) (QE.t q_int)) (QE.t q_int)) (qss_cons (qs_set (i := 2) (q_op op_mod f_mod (q_ix ag hr.r.units (qv 0) (QE.t q_int)) (qv 1)) sc_l_take.nd)
    (qss_cons (qs_put hr.r.units (QE.fk (q_op op_fdivW f_div (q_ix ag hr.r.units (qv 0) (QE.t q_int)) (qv 1))) (qp_v 0) (QE.t q_int))
    (qss_one (qs_ret (qmv 2))))) qss_nil)
    (qss_cons (qs_put hr.r.units (QE.fk (q_op (o_add _ ag.K) f_add (q_ix ag hr.r.units (qv 0) (QE.t q_int)) (QE.t q_int))) (qp_v 0) (QE.t q_int))
    (qss_cons (qs_set (i := 3) (q_op op_mod f_mod (QE.t (q_op (o_mul _ ag.K) f_mul (QE.t (q_op (o_add _ ag.K) f_add (QE.t (q_op (o_add _ ag.K) f_add (q_ix ag hr.r.units (qv 0) (QE.t q_int)) (QE.t (q_op (o_mul _ ag.K) f_mul (QE.t (q_op (o_mul _ ag.K) f_mul (QE.t q_int) (q_ix ag hr.r.units (qv 0) (QE.t q_int)))) (q_ix ag hr.r.units (qv 0) (QE.t q_int)))))) (QE.t q_int))) (QE.t q_int))) (QE.t q_int)) sc_l_take.nd)
    (qss_cons (qs_set (i := 3) (q_op op_mod f_mod (QE.t (q_op (o_mul _ ag.K) f_mul (qv 3) (QE.t (q_op (o_add _ ag.K) f_add (QE.t (q_op op_mod f_mod (qv 3) (QE.t q_int))) (QE.t (q_op (o_mul _ ag.K) f_mul (QE.t q_int) (q_ix ag hr.r.units (qv 0) (QE.t q_int)))))))) (QE.t q_int)) sc_l_take.nd)
    (qss_one (qs_ret (q_op op_mod f_mod (QE.t (q_op (o_add _ ag.K) f_add (QE.t (q_op op_fdivW f_div (qv 3) (QE.t q_int))) (QE.t (q_op op_fdivW f_div (qv 3) (QE.t q_int))))) (qv 1))))))))
theorem ok_is_integer (T : TX P w K mg base cls Ω) : Cal P w K mg base CX0 1 "is_integer" ["value", "low", "high"] (spM ⟨K, cls, P, w, Ω⟩ false [false, false, false] m_is_integer) := by
  obtain ⟨f, fd, F⟩ := T.a_is_integer
  refine cal_M (m := b_is_integer) F (F.fn.binds (fun _ _ _ _ _ _ us hl => by
    obtain ⟨_, _, _, rfl⟩ := lenN_3 hl
    rfl)) sc_is_integer rfl rfl ?_
  intro cdv A outer s H E hr
  refine with_ag ⟨rfl, rfl, rfl⟩ fun ag => ?_
  exact (qss_one (qs_ret (q_and (QE.t (q_isa (T := "int") (f := Kd.isInt) ag isa_int_k T.blt.b_isinstance T.blt.b_int (by decide +kernel) (qv 0))) (q_and (QE.t (q_not (QE.t (q_isa (T := "bool") (f := Kd.isBool) ag isa_bool_k T.blt.b_isinstance T.blt.b_bool (by decide +kernel) (qv 0))))) (q_one (q_chain op_le f_le op_le f_le (qv 1) (qv 0) (qv 2)))))))
theorem ok_is_ascending (T : TX P w K mg base cls Ω) : Cal P w K mg base CX0 1 "is_ascending" ["items"] (spM ⟨K, cls, P, w, Ω⟩ false [false] m_is_ascending) := by
  obtain ⟨f, fd, F⟩ := T.a_is_ascending
  refine cal_M (m := b_is_ascending) F (F.fn.binds (fun _ _ _ _ _ _ us hl => by
    obtain ⟨_, rfl⟩ := lenN_1 hl
    rfl)) sc_is_ascending rfl rfl ?_
  intro cdv A outer s H E hr
  refine with_ag ⟨rfl, rfl, rfl⟩ fun ag => ?_
  exact (qss_one (qs_ret (q_callB (k_all _ rfl ag.K) f_all T.blt.b_all (by decide +kernel) (qta_cons (QE.t (q_lc (own := [("item", 1), ("following", 2)]) sc_is_ascending.nd (qi_zip ag T.blt.b_zip (QA.ta (qa_cons (qvk 0) (qa_cons (QE.fk (q_sl ag (qv 0) (qo_s (QE.t q_int)) qo_n)) qa_nil)))) (blkOk_by (own := [("item", 1), ("following", 2)]) (N := n_is_ascending) (sc := defScope s_is_ascending) (by decide +kernel)) (fun _ _ _ _ _ => (qg_t ag.blk (qgs_cons (qg_n 1 sc_is_ascending.nd) (qgs_cons (qg_n 2 sc_is_ascending.nd) qgs_nil)))) (fun _ _ _ _ _ => qts_nil) (fun _ _ _ _ _ => (q_cmp op_lt f_lt (qv 1) (qv 2))))) qta_nil))))
theorem ok_is_name (T : TX P w K mg base cls Ω) : Cal P w K mg base CX0 1 "is_name" ["value"] (spM ⟨K, cls, P, w, Ω⟩ false [false] m_is_name) := by
  obtain ⟨f, fd, F⟩ := T.a_is_name
  refine cal_M (m := b_is_name) F (F.fn.binds (fun _ _ _ _ _ _ us hl => by
    obtain ⟨_, rfl⟩ := lenN_1 hl
    rfl)) sc_is_name rfl rfl ?_
  intro cdv A outer s H E hr
  refine with_ag ⟨rfl, rfl, rfl⟩ fun ag => ?_
  exact (qss_one (qs_ret (q_and (QE.t (q_isa (T := "str") (f := Kd.isStr) ag isa_str_k T.blt.b_isinstance T.blt.b_str (by decide +kernel) (qv 0))) (q_and (QE.t (q_chain op_le f_le op_le f_le (QE.t q_int) (QE.t (q_callB (o_len _ ag.K ag.P ag.w) f_len T.blt.b_len PySem.boot_len (qta_cons (qv 0) qta_nil))) (QE.t (q_gl T.c_LONGEST_NAME gl_int)))) (q_one (q_callB (k_all _ rfl ag.K) f_all T.blt.b_all (by decide +kernel) (qta_cons (QE.t (q_lc (own := [("char", 1)]) sc_is_name.nd (qi_str (qv 0)) (blkOk_by (own := [("char", 1)]) (N := n_is_name) (sc := defScope s_is_name) (by decide +kernel)) (fun _ _ _ _ _ => (qg_n 1 sc_is_name.nd)) (fun _ _ _ _ _ => qts_nil) (fun _ _ _ _ _ => (q_cmp (o_in _ hr.r.units ag.blk.K) f_in (qv 1) (QE.t (q_gl T.c_LETTERS gl_str)))))) qta_nil)))))))
theorem ok_l_cells_page (T : TX P w K mg base cls Ω) : Cal P w K mg base CX0 1 "_law_cells_page" ["_law_cells"] (spM ⟨K, cls, P, w, Ω⟩ false [false] m_l_cells_page) := by
  obtain ⟨f, fd, F⟩ := T.a_l_cells_page
  refine cal_M (m := b_l_cells_page) F (F.fn.binds (fun _ _ _ _ _ _ us hl => by
    obtain ⟨_, rfl⟩ := lenN_1 hl
    rfl)) sc_l_cells_page rfl rfl ?_
  intro cdv A outer s H E hr
  refine with_ag ⟨rfl, rfl, rfl⟩ fun ag => ?_
  exact (qss_one (qs_ret (q_ifx (q_tcmp (o_neU _ hr.r.units ag.K) f_ne2 (qv 0) (QE.t (q_tup qa_nil))) (q_join ag (QE.t (q_lc (own := [("_law_byte", 1)]) sc_l_cells_page.nd (qi_seq ag (qvk 0)) (blkOk_by (own := [("_law_byte", 1)]) (N := n_l_cells_page) (sc := defScope s_l_cells_page) (by decide +kernel)) (fun _ _ _ _ _ => (qg_n 1 sc_l_cells_page.nd)) (fun _ _ _ _ _ => qts_nil) (fun _ _ _ _ _ => (q_callT o_strI f_strI T.blt.b_str (by decide +kernel) (qta_cons (qv 1) qta_nil)))))) q_str)))
theorem ok_format_code (T : TX P w K mg base cls Ω) : Cal P w K mg base CX0 1 "format_code" ["code"] (spM ⟨K, cls, P, w, Ω⟩ false [false] m_format_code) := by
  obtain ⟨f, fd, F⟩ := T.a_format_code
  refine cal_M (m := b_format_code) F (F.fn.binds (fun _ _ _ _ _ _ us hl => by
    obtain ⟨_, rfl⟩ := lenN_1 hl
    rfl)) sc_format_code rfl rfl ?_
  intro cdv A outer s H E hr
  refine with_ag ⟨rfl, rfl, rfl⟩ fun ag => ?_
  exact (qss_one (qs_ret (q_ifx (q_tcmp (o_eqU _ hr.r.units ag.K) f_eq2 (qv 0) (QE.t (q_tup qa_nil))) (q_gl T.c_EMPTY gl_str) (q_join ag (QE.t (q_lc (own := [("byte", 1)]) sc_format_code.nd (qi_seq ag (qvk 0)) (blkOk_by (own := [("byte", 1)]) (N := n_format_code) (sc := defScope s_format_code) (by decide +kernel)) (fun _ _ _ _ _ => (qg_n 1 sc_format_code.nd)) (fun _ _ _ _ _ => qts_nil) (fun _ _ _ _ _ => (q_callT o_strI f_strI T.blt.b_str (by decide +kernel) (qta_cons (qv 1) qta_nil)))))))))
theorem okk_format_code_0 (T : TX P w K mg base cls Ω) : CalK P w K mg base CX0 1 "format_code" ["code"] ["code"] (gK .none [0] 1) (gK .non [0] 1) (spM ⟨K, cls, P, w, Ω⟩ false [false] m_format_code) := by
  obtain ⟨f, fd, F⟩ := T.a_format_code
  refine Cal.kw (ok_format_code T) F (fun _ _ _ _ _ _ us ws h => ?_) gK_rel
  obtain ⟨rfl, hl⟩ := gK_len (m := 1) h (by decide)
  match ws, hl with
  | [_], _ => rfl
theorem ok_number_in (T : TX P w K mg base cls Ω) : Cal P w K mg base CX0 1 "number_in" ["word", "most_digits"] (spM ⟨K, cls, P, w, Ω⟩ false [false, false] m_number_in) := by
  obtain ⟨f, fd, F⟩ := T.a_number_in
  refine cal_M (m := b_number_in) F (F.fn.binds (fun _ _ _ _ _ _ us hl => by
    obtain ⟨_, _, rfl⟩ := lenN_2 hl
    rfl)) sc_number_in rfl rfl ?_
  intro cdv A outer s H E hr
  refine with_ag ⟨rfl, rfl, rfl⟩ fun ag => ?_
  exact (qss_cons (qs_if (QW.t (q_wor (q_tnot (q_tchain op_le f_le op_le f_le (QE.t q_int) (QE.t (q_callB (o_len _ ag.K ag.P ag.w) f_len T.blt.b_len PySem.boot_len (qta_cons (qv 0) qta_nil))) (qv 1))) (q_wor1 (q_tnot (q_tval (QE.t (q_callB (k_all _ rfl ag.K) f_all T.blt.b_all (by decide +kernel) (qta_cons (QE.t (q_lc (own := [("sign", 2)]) sc_number_in.nd (qi_str (qv 0)) (blkOk_by (own := [("sign", 2)]) (N := n_number_in) (sc := defScope s_number_in) (by decide +kernel)) (fun _ _ _ _ _ => (qg_n 2 sc_number_in.nd)) (fun _ _ _ _ _ => qts_nil) (fun _ _ _ _ _ => (q_cmp (o_in _ hr.r.units ag.blk.K) f_in (qv 2) (QE.t (q_gl T.c_DIGITS gl_str)))))) qta_nil)))))))) (qss_one (qs_ret q_non)) qss_nil)
    (qss_one (qs_ret (q_ifx (QW.t (q_wand (q_tcmp (o_eqU _ hr.r.units ag.K) f_eq2 (q_ix ag hr.r.units (qv 0) (QE.t q_int)) (QE.t q_str)) (q_wand1 (q_tcmp (o_neU _ hr.r.units ag.K) f_ne2 (qv 0) (QE.t q_str))))) q_non (q_callT o_intS f_intS T.blt.b_int (by decide +kernel) (qta_cons (qv 0) qta_nil))))))
theorem ok_l_number (T : TX P w K mg base cls Ω) : Cal P w K mg base CX0 1 "_law_number" ["_law_word", "_law_most"] (spM ⟨K, cls, P, w, Ω⟩ false [false, false] m_l_number) := by
  obtain ⟨f, fd, F⟩ := T.a_l_number
  refine cal_M (m := b_l_number) F (F.fn.binds (fun _ _ _ _ _ _ us hl => by
    obtain ⟨_, _, rfl⟩ := lenN_2 hl
    rfl)) sc_l_number rfl rfl ?_
  intro cdv A outer s H E hr
  refine with_ag ⟨rfl, rfl, rfl⟩ fun ag => ?_
  exact (qss_cons (qs_if (QW.t (q_wor (q_tnot (q_tchain op_le f_le op_le f_le (QE.t q_int) (QE.t (q_callB (o_len _ ag.K ag.P ag.w) f_len T.blt.b_len PySem.boot_len (qta_cons (qv 0) qta_nil))) (qv 1))) (q_wor (q_tcmp (o_neU _ hr.r.units ag.K) f_ne2 (QE.t (q_stripC (qv 0) (QE.t q_str))) (QE.t q_str)) (q_wor1 (QW.t (q_wand (q_tcmp op_gt f_gt (QE.t (q_callB (o_len _ ag.K ag.P ag.w) f_len T.blt.b_len PySem.boot_len (qta_cons (qv 0) qta_nil))) (QE.t q_int)) (q_wand1 (q_tcmp (o_eqU _ hr.r.units ag.K) f_eq2 (q_ix ag hr.r.units (qv 0) (QE.t q_int)) (QE.t q_str))))))))) (qss_one (qs_ret (q_neg (QE.t q_int)))) qss_nil)
    (qss_one (qs_ret (q_callT o_intS f_intS T.blt.b_int (by decide +kernel) (qta_cons (qv 0) qta_nil)))))
theorem ok_l_of (T : TX P w K mg base cls Ω) : Cal P w K mg base CX0 2 "_law_of" ["_law_box_here", "_law_some"] (spM ⟨K, cls, P, w, Ω⟩ false [true, false] m_l_of) := by
  obtain ⟨f, fd, F⟩ := T.a_l_of
  refine cal_M (m := b_l_of) F (F.fn.binds (fun _ _ _ _ _ _ us hl => by
    obtain ⟨_, _, rfl⟩ := lenN_2 hl
    rfl)) sc_l_of rfl rfl ?_
  intro cdv A outer s H E hr
  refine with_ag ⟨rfl, rfl, rfl⟩ fun ag => ?_
  exact (qss_one (qs_ret (QT.k (q_ixk ag hr.r.units (qvk 1) (QE.t (q_call (ok_l_take T) hr (qm_io 0 (qm_e (QE.fk (q_callB (o_len _ ag.K ag.P ag.w) f_len T.blt.b_len PySem.boot_len (qta_cons (qv 1) qta_nil))) qm_nil))))))))
theorem ok_is_instruction (T : TX P w K mg base cls Ω) : Cal P w K mg base CX0 2 "is_instruction" ["value", "byte_count"] (spM ⟨K, cls, P, w, Ω⟩ false [false, false] m_is_instruction) := by
  obtain ⟨f, fd, F⟩ := T.a_is_instruction
  refine cal_M (m := b_is_instruction) F (F.fn.binds (fun _ _ _ _ _ _ us hl => by
    obtain ⟨_, _, rfl⟩ := lenN_2 hl
    rfl)) sc_is_instruction rfl rfl ?_
  intro cdv A outer s H E hr
  refine with_ag ⟨rfl, rfl, rfl⟩ fun ag => ?_
  exact (qss_cons (qs_if (QW.t (q_wor (q_tnot (q_tval (QE.t (q_isa (T := "tuple") (f := Kd.isTuple) ag isa_tuple_k T.blt.b_isinstance T.blt.b_tuple (by decide +kernel) (qv 0))))) (q_wor1 (q_tcmp (o_neU _ hr.r.units ag.K) f_ne2 (QE.t (q_callB (o_len _ ag.K ag.P ag.w) f_len T.blt.b_len PySem.boot_len (qta_cons (qv 0) qta_nil))) (QE.t q_int))))) (qss_one (qs_ret q_bl)) qss_nil)
    (qss_cons (qs_asg (qvk 0) (qg_t ag (qgs_cons (qg_n 2 sc_is_instruction.nd) (qgs_cons (qg_n 3 sc_is_instruction.nd) (qgs_cons (qg_n 4 sc_is_instruction.nd) (qgs_cons (qg_n 5 sc_is_instruction.nd) qgs_nil))))))
    (qss_cons (qs_if (QW.t (q_wor (q_tnot (q_tval (QE.t (q_call (ok_is_integer T) hr (qm_e (qvk 2) (qm_e q_int (qm_e (QE.fk (q_op op_sub f_sub (qv 1) (QE.t q_int))) qm_nil))))))) (q_wor1 (q_tnot (q_tval (QE.t (q_call (ok_is_name T) hr (qm_e (qvk 3) qm_nil)))))))) (qss_one (qs_ret q_bl)) qss_nil)
    (qss_one (qs_ret (q_and (QE.t (q_call (ok_is_integer T) hr (qm_e (qvk 4) (qm_e q_int (qm_e (q_gl T.c_LONGEST_INSTRUCTION gl_int) qm_nil))))) (q_one (q_isa (T := "bool") (f := Kd.isBool) ag isa_bool_k T.blt.b_isinstance T.blt.b_bool (by decide +kernel) (qv 5)))))))))
theorem ok_is_code (T : TX P w K mg base cls Ω) : Cal P w K mg base CX0 2 "is_code" ["instruction_set", "value"] (spM ⟨K, cls, P, w, Ω⟩ false [false, false] m_is_code) := by
  obtain ⟨f, fd, F⟩ := T.a_is_code
  refine cal_M (m := b_is_code) F (F.fn.binds (fun _ _ _ _ _ _ us hl => by
    obtain ⟨_, _, rfl⟩ := lenN_2 hl
    rfl)) sc_is_code rfl rfl ?_
  intro cdv A outer s H E hr
  refine with_ag ⟨rfl, rfl, rfl⟩ fun ag => ?_
  exact (qss_cons (qs_if (q_tnot (q_tval (QE.t (q_isa (T := "tuple") (f := Kd.isTuple) ag isa_tuple_k T.blt.b_isinstance T.blt.b_tuple (by decide +kernel) (qv 1))))) (qss_one (qs_ret q_bl)) qss_nil)
    (qss_one (qs_ret (q_callB (k_all _ rfl ag.K) f_all T.blt.b_all (by decide +kernel) (qta_cons (QE.t (q_lc (own := [("byte", 2)]) sc_is_code.nd (qi_seq ag (qvk 1)) (blkOk_by (own := [("byte", 2)]) (N := n_is_code) (sc := defScope s_is_code) (by decide +kernel)) (fun _ _ _ _ _ => (qg_n 2 sc_is_code.nd)) (fun _ _ _ _ _ => qts_nil) (fun _ _ _ _ _ => (q_call (ok_is_integer T) hr (qm_e (qvk 2) (qm_e q_int (qm_e (QE.fk (q_op op_sub f_sub (q_fld (cs := ["InstructionSet"]) (f := "byte_count") ag.blk T.f_byte_count (qv 0)) (QE.t q_int))) qm_nil))))))) qta_nil)))))
theorem ok_l_due (T : TX P w K mg base cls Ω) : Cal P w K mg base CX0 2 "_law_due" ["_law_table_here", "_law_page"] (spM ⟨K, cls, P, w, Ω⟩ false [false, false] m_l_due) := by
  obtain ⟨f, fd, F⟩ := T.a_l_due
  refine cal_M (m := b_l_due) F (F.fn.binds (fun _ _ _ _ _ _ us hl => by
    obtain ⟨_, _, rfl⟩ := lenN_2 hl
    rfl)) sc_l_due rfl rfl ?_
  intro cdv A outer s H E hr
  refine with_ag ⟨rfl, rfl, rfl⟩ fun ag => ?_
  exact (qss_cons (qs_set (i := 2) (q_split (qv 1) (QE.t q_str)) sc_l_due.nd)
    (qss_cons (qs_set (i := 3) (q_ifx (q_tcmp (o_eqU _ hr.r.units ag.K) f_eq2 (q_ix ag hr.r.units (qv 2) (QE.t q_int)) (QE.t q_str)) (q_lst qa_nil) (q_lc (own := [("_law_word", 4)]) sc_l_due.nd (qi_seq ag (q_split (q_ix ag hr.r.units (qv 2) (QE.t q_int)) (QE.t q_str))) (blkOk_by (own := [("_law_word", 4)]) (N := n_l_due) (sc := defScope s_l_due) (by decide +kernel)) (fun _ _ _ _ _ => (qg_n 4 sc_l_due.nd)) (fun _ _ _ _ _ => qts_nil) (fun _ _ _ _ _ => (q_call (ok_l_number T) hr (qm_e (qvk 4) (qm_e q_int qm_nil)))))) sc_l_due.nd)
    (qss_cons (qs_if (q_tnot (q_tval (QE.t (q_callB (k_all _ rfl ag.K) f_all T.blt.b_all (by decide +kernel) (qta_cons (QE.t (q_lc (own := [("_law_number_here", 5)]) sc_l_due.nd (qi_seq ag (qvk 3)) (blkOk_by (own := [("_law_number_here", 5)]) (N := n_l_due) (sc := defScope s_l_due) (by decide +kernel)) (fun _ _ _ _ _ => (qg_n 5 sc_l_due.nd)) (fun _ _ _ _ _ => qts_nil) (fun _ _ _ _ _ => (q_chain op_le f_le op_lt f_lt (QE.t q_int) (qv 5) (q_ix ag.blk hr.r.units (qv 0) (QE.t q_int)))))) qta_nil))))) (qss_one (qs_ret (q_tup (qa_cons q_str (qa_cons q_int qa_nil))))) qss_nil)
    (qss_one (qs_ret (q_ifx (q_tcmp op_gt f_gt (QE.t (q_callB (o_len _ ag.K ag.P ag.w) f_len T.blt.b_len PySem.boot_len (qta_cons (qv 2) qta_nil))) (QE.t q_int)) (q_tup (qa_cons q_str (qa_cons q_int qa_nil))) (q_tup (qa_cons q_str (qa_cons (q_callT (o_tuple _ ag.K) f_tuple T.blt.b_tuple (by decide +kernel) (qta_cons (qv 3) qta_nil)) qa_nil)))))))))
theorem ok_l_table (T : TX P w K mg base cls Ω) : Cal P w K mg base CX0 3 "_law_table" ["_law_box_here", "_law_most_bytes", "_law_longest"] (spM ⟨K, cls, P, w, Ω⟩ false [true, false, false] m_l_table) := by
  obtain ⟨f, fd, F⟩ := T.a_l_table
  refine cal_M (m := b_l_table) F (F.fn.binds (fun _ _ _ _ _ _ us hl => by
    obtain ⟨_, _, _, rfl⟩ := lenN_3 hl
    rfl)) sc_l_table rfl rfl ?_
  intro cdv A outer s H E hr
  refine with_ag ⟨rfl, rfl, rfl⟩ fun ag => ?_
  exact (qss_cons (qs_set (i := 3) (q_opk (o_add _ ag.K) f_add q_int (QE.t (q_call (ok_l_take T) hr (qm_io 0 (qm_e (QE.fk (q_op op_sub f_sub (qv 1) (QE.t q_int))) qm_nil))))) sc_l_table.nd)
    (qss_cons (qs_par (i := 4) (j := 5) (qa_cons (q_opk (o_add _ ag.K) f_add q_int (QE.t (q_call (ok_l_take T) hr (qm_io 0 (qm_e (QE.fk (q_callB (call_min2 rfl) f_min2 T.blt.b_min (by decide +kernel) (qta_cons (QE.t q_int) (qta_cons (qv 3) qta_nil)))) qm_nil))))) (qa_cons (q_lrg T.blt.b_list (q_rg1 T.blt.b_range (qv 3))) qa_nil)) sc_l_table.nd)
    (qss_cons (qs_if (QW.t (q_wand (q_tcmp op_gt f_gt (qv 3) (QE.t q_int)) (q_wand1 (q_tcmp (o_eqU _ hr.r.units ag.K) f_eq2 (QE.t (q_op op_mod f_mod (qv 3) (QE.t q_int))) (QE.t q_int))))) (qss_one (qs_set (i := 4) (q_op (o_add _ ag.K) f_add (QE.t q_int) (QE.t (q_op op_fdivW f_div (qv 3) (QE.t q_int)))) sc_l_table.nd)) qss_nil)
    (qss_cons (qs_while PassesOwn.never (q_tcmp op_gt f_gt (QE.t (q_callB (o_len _ ag.K ag.P ag.w) f_len T.blt.b_len PySem.boot_len (qta_cons (qv 5) qta_nil))) (qv 4)) (qss_one (qs_expr (QE.t (q_lm ag PySem.F.slot_list_pop PySem.F.type_list_pop mt_popAt m_popAt (qp_v 5) (qa_cons (q_call (ok_l_take T) hr (qm_io 0 (qm_e (QE.fk (q_callB (o_len _ ag.K ag.P ag.w) f_len T.blt.b_len PySem.boot_len (qta_cons (qv 5) qta_nil))) qm_nil))) qa_nil))))))
    (qss_cons (qs_par (i := 6) (j := 7) (qa_cons (q_lst qa_nil) (qa_cons (q_call (ok_l_take T) hr (qm_io 0 (qm_e q_int qm_nil))) qa_nil)) sc_l_table.nd)
    (qss_cons (qs_for PassesOwn.never (qi_enum ag T.blt.b_enumerate (QA.ta (qa_cons (qvk 5) qa_nil))) (qg_t ag (qgs_cons (qg_n 8 sc_l_table.nd) (qgs_cons (qg_n 9 sc_l_table.nd) qgs_nil))) (qss_cons (qs_set (i := 10) (QT.k (q_ix ag hr.r.units (QE.t q_str) (QE.t (q_op op_mod f_mod (QE.t (q_op (o_add _ ag.K) f_add (qv 7) (QE.t (q_op (o_mul _ ag.K) f_mul (QE.t q_int) (qv 8))))) (QE.t q_int))))) sc_l_table.nd)
    (qss_cons (qs_set (i := 11) (q_op (o_add _ ag.K) f_add (QE.t (q_opk (o_mul _ ag.K) f_mul (qvk 10) (QE.t (q_opk (o_add _ ag.K) f_add q_int (QE.t (q_call (ok_l_take T) hr (qm_io 0 (qm_e q_int qm_nil)))))))) (QE.t (q_op (o_mul _ ag.K) f_mul (QE.t (q_ifx (q_tcmp (o_eqU _ hr.r.units ag.K) f_eq2 (qv 10) (QE.t q_str)) q_str q_str)) (QE.t (q_op op_fdivW f_div (qv 8) (QE.t q_int)))))) sc_l_table.nd)
    (qss_cons (qs_set (i := 12) (q_call (ok_l_of T) hr (qm_io 0 (qm_e (QE.fk (q_lst (qa_cons q_int (qa_cons q_int (qa_cons q_int (qa_cons (q_opk (o_add _ ag.K) f_add q_int (QE.t (q_call (ok_l_take T) hr (qm_io 0 (qm_e (qvk 2) qm_nil))))) qa_nil)))))) qm_nil))) sc_l_table.nd)
    (qss_one (qs_expr (QE.t (q_lm ag PySem.F.slot_list_append PySem.F.type_list_append mt_append m_append (qp_v 6) (qa_cons (q_tup (qa_cons (qvk 9) (qa_cons (qvk 11) (qa_cons (q_callB (call_min2 rfl) f_min2 T.blt.b_min (by decide +kernel) (qta_cons (qv 12) (qta_cons (qv 2) qta_nil))) (qa_cons (q_or (QE.t (q_cmp (o_eqU _ hr.r.units ag.K) f_eq2 (qv 8) (QE.t q_int))) (q_one (q_cmp (o_eqU _ hr.r.units ag.K) f_eq2 (QE.t (q_call (ok_l_take T) hr (qm_io 0 (qm_e q_int qm_nil)))) (QE.t q_int)))) qa_nil))))) qa_nil)))))))))
    (qss_one (qs_ret (q_tup (qa_cons (qvk 3) (qa_cons (q_callT (o_tuple _ ag.K) f_tuple T.blt.b_tuple (by decide +kernel) (qta_cons (qv 6) qta_nil)) qa_nil)))))))))))
theorem ok_l_bytes (T : TX P w K mg base cls Ω) : Cal P w K mg base CX0 3 "_law_bytes" ["_law_box_here", "_law_table_here", "_law_many"] (spM ⟨K, cls, P, w, Ω⟩ false [true, false, false] m_l_bytes) := by
  obtain ⟨f, fd, F⟩ := T.a_l_bytes
  refine cal_M (m := b_l_bytes) F (F.fn.binds (fun _ _ _ _ _ _ us hl => by
    obtain ⟨_, _, _, rfl⟩ := lenN_3 hl
    rfl)) sc_l_bytes rfl rfl ?_
  intro cdv A outer s H E hr
  refine with_ag ⟨rfl, rfl, rfl⟩ fun ag => ?_
  exact (qss_cons (qs_set (i := 3) (q_lc (own := [("_law_instruction", 4)]) sc_l_bytes.nd (qi_seq ag (QT.k (q_ix ag hr.r.units (qv 1) (QE.t q_int)))) (blkOk_by (own := [("_law_instruction", 4)]) (N := n_l_bytes) (sc := defScope s_l_bytes) (by decide +kernel)) (fun _ _ _ _ _ => (qg_n 4 sc_l_bytes.nd)) (fun _ _ _ _ _ => qts_nil) (fun _ _ _ _ _ => (QT.k (q_ix ag.blk hr.r.units (qv 4) (QE.t q_int))))) sc_l_bytes.nd)
    (qss_one (qs_ret (q_callT (o_tuple _ ag.K) f_tuple T.blt.b_tuple (by decide +kernel) (qta_cons (QE.t (q_lc (own := [("_law_at", 5)]) sc_l_bytes.nd (qi_rng1 T.blt.b_range (qta_cons (qv 2) qta_nil)) (blkOk_by (own := [("_law_at", 5)]) (N := n_l_bytes) (sc := defScope s_l_bytes) (by decide +kernel)) (fun _ _ _ _ _ => (qg_n 5 sc_l_bytes.nd)) (fun _ _ _ _ _ => qts_nil) (fun _ _ _ _ _ => (q_ifx (q_tcmp op_gt f_gt (QE.t (q_call (ok_l_take T) hr (qm_io 0 (qm_e q_int qm_nil)))) (QE.t q_int)) (q_call (ok_l_of T) hr (qm_io 0 (qm_e (qvk 3) qm_nil))) (q_call (ok_l_take T) hr (qm_io 0 (qm_e (QT.k (q_ix ag.blk hr.r.units (qv 1) (QE.t q_int))) qm_nil))))))) qta_nil)))))
theorem ok_are_instructions (T : TX P w K mg base cls Ω) : Cal P w K mg base CX0 3 "are_instructions" ["value", "byte_count"] (spM ⟨K, cls, P, w, Ω⟩ false [false, false] m_are_instructions) := by
  obtain ⟨f, fd, F⟩ := T.a_are_instructions
  refine cal_M (m := b_are_instructions) F (F.fn.binds (fun _ _ _ _ _ _ us hl => by
    obtain ⟨_, _, rfl⟩ := lenN_2 hl
    rfl)) sc_are_instructions rfl rfl ?_
  intro cdv A outer s H E hr
  refine with_ag ⟨rfl, rfl, rfl⟩ fun ag => ?_
  exact (qss_cons (qs_if (QW.t (q_wor (q_tnot (q_tval (QE.t (q_isa (T := "tuple") (f := Kd.isTuple) ag isa_tuple_k T.blt.b_isinstance T.blt.b_tuple (by decide +kernel) (qv 0))))) (q_wor1 (q_tcmp (o_eqU _ hr.r.units ag.K) f_eq2 (qv 0) (QE.t (q_tup qa_nil)))))) (qss_one (qs_ret q_bl)) qss_nil)
    (qss_cons (qs_if (q_tnot (q_tval (QE.t (q_callB (k_all _ rfl ag.K) f_all T.blt.b_all (by decide +kernel) (qta_cons (QE.t (q_lc (own := [("item", 3)]) sc_are_instructions.nd (qi_seq ag (qvk 0)) (blkOk_by (own := [("item", 3)]) (N := n_are_instructions) (sc := defScope s_are_instructions) (by decide +kernel)) (fun _ _ _ _ _ => (qg_n 3 sc_are_instructions.nd)) (fun _ _ _ _ _ => qts_nil) (fun _ _ _ _ _ => (q_call (ok_is_instruction T) hr (qm_e (qvk 3) (qm_e (qvk 1) qm_nil)))))) qta_nil))))) (qss_one (qs_ret q_bl)) qss_nil)
    (qss_cons (qs_setSc (i := 2) ag (own := [("item", 3)]) sc_are_instructions.nd (qi_seq ag (qvk 0)) (blkOk_by (own := [("item", 3)]) (N := n_are_instructions) (sc := defScope s_are_instructions) (by decide +kernel)) (fun _ _ _ _ _ => (qg_n 3 sc_are_instructions.nd)) (fun _ _ _ _ _ => qts_nil) (fun _ _ _ _ _ => (QT.k (q_ix ag.blk hr.r.units (qv 3) (QE.t q_int)))) (sw_set rfl rfl rfl (by decide +kernel)))
    (qss_one (qs_ret (q_and (QE.t (q_call (ok_is_ascending T) hr (qm_e (QE.fk (q_lc (own := [("item", 3)]) sc_are_instructions.nd (qi_seq ag (qvk 0)) (blkOk_by (own := [("item", 3)]) (N := n_are_instructions) (sc := defScope s_are_instructions) (by decide +kernel)) (fun _ _ _ _ _ => (qg_n 3 sc_are_instructions.nd)) (fun _ _ _ _ _ => qts_nil) (fun _ _ _ _ _ => (QT.k (q_ix ag.blk hr.r.units (qv 3) (QE.t q_int)))))) qm_nil))) (q_one (q_cmp (o_eqU _ hr.r.units ag.K) f_eq2 (QE.t (q_callB (o_len _ ag.K ag.P ag.w) f_len T.blt.b_len PySem.boot_len (qta_cons (qv 2) qta_nil))) (QE.t (q_callB (o_len _ ag.K ag.P ag.w) f_len T.blt.b_len PySem.boot_len (qta_cons (qv 0) qta_nil)))))))))))
theorem ok_l_bent (T : TX P w K mg base cls Ω) : Cal P w K mg base CX0 3 "_law_bent" ["_law_box_here", "_law_page"] (spM ⟨K, cls, P, w, Ω⟩ false [true, false] m_l_bent) := by
  obtain ⟨f, fd, F⟩ := T.a_l_bent
  refine cal_M (m := b_l_bent) F (F.fn.binds (fun _ _ _ _ _ _ us hl => by
    obtain ⟨_, _, rfl⟩ := lenN_2 hl
    rfl)) sc_l_bent rfl rfl ?_
  intro cdv A outer s H E hr
  refine with_ag ⟨rfl, rfl, rfl⟩ fun ag => ?_
  exact (qss_cons (qs_par (i := 2) (j := 3) (qa_cons (q_call (ok_l_take T) hr (qm_io 0 (qm_e q_int qm_nil))) (qa_cons (q_call (ok_l_take T) hr (qm_io 0 (qm_e (QE.fk (q_op (o_add _ ag.K) f_add (QE.t (q_callB (o_len _ ag.K ag.P ag.w) f_len T.blt.b_len PySem.boot_len (qta_cons (qv 1) qta_nil))) (QE.t q_int))) qm_nil))) qa_nil)) sc_l_bent.nd)
    (qss_cons (qs_set (i := 4) (q_lst (qa_cons q_str (qa_cons q_str qa_nil))) sc_l_bent.nd)
    (qss_cons (qs_par (i := 5) (j := 6) (qa_cons (q_call (ok_l_of T) hr (qm_io 0 (qm_e (QT.k (q_ixk ag hr.r.units (qvk 4) (QE.t (q_call (ok_l_take T) hr (qm_io 0 (qm_e q_int qm_nil)))))) qm_nil))) (qa_cons (QT.k (q_ixk ag hr.r.units (q_lst (qa_cons q_str (qa_cons q_str qa_nil))) (QE.t (q_call (ok_l_take T) hr (qm_io 0 (qm_e q_int qm_nil)))))) qa_nil)) sc_l_bent.nd)
    (qss_cons (qs_set (i := 7) (q_split (qv 1) (qv 6)) sc_l_bent.nd)
    (qss_cons (qs_par (i := 8) (j := 9) (qa_cons (q_call (ok_l_take T) hr (qm_io 0 (qm_e (QE.fk (q_callB (o_len _ ag.K ag.P ag.w) f_len T.blt.b_len PySem.boot_len (qta_cons (qv 7) qta_nil))) qm_nil))) (qa_cons (q_call (ok_l_take T) hr (qm_io 0 (qm_e (QE.fk (q_callB (o_len _ ag.K ag.P ag.w) f_len T.blt.b_len PySem.boot_len (qta_cons (qv 7) qta_nil))) qm_nil))) qa_nil)) sc_l_bent.nd)
    (qss_cons (qs_if (q_tcmp op_lt f_lt (qv 2) (QE.t q_int)) (qss_one (qs_ret (q_op (o_add _ ag.K) f_add (QE.t (q_op (o_add _ ag.K) f_add (QE.t (q_sl ag (qv 1) qo_n (qo_s (qv 3)))) (QE.t (q_op (o_mul _ ag.K) f_mul (qv 5) (qv 2))))) (QE.t (q_sl ag (qv 1) (qo_s (QE.t (q_op op_sub f_sub (QE.t (q_op (o_add _ ag.K) f_add (qv 3) (QE.t q_int))) (qv 2)))) qo_n))))) qss_nil)
    (qss_cons (qs_if (q_tcmp (o_eqU _ hr.r.units ag.K) f_eq2 (qv 2) (QE.t q_int)) (qss_one (qs_ret (q_op (o_add _ ag.K) f_add (QE.t (q_op (o_add _ ag.K) f_add (QE.t (q_sl ag (qv 1) qo_n (qo_s (qv 3)))) (QE.t (q_revS (QE.t (q_sl ag (qv 1) (qo_s (qv 3)) (qo_s (QE.t (q_op (o_add _ ag.K) f_add (qv 3) (QE.t q_int)))))))))) (QE.t (q_sl ag (qv 1) (qo_s (QE.t (q_op (o_add _ ag.K) f_add (qv 3) (QE.t q_int)))) qo_n))))) qss_nil)
    (qss_cons (qs_if (q_tcmp (o_eqU _ hr.r.units ag.K) f_eq2 (qv 2) (QE.t q_int)) (qss_one (qs_ret (q_joinV ag (qv 6) (QE.t (q_op (o_add _ ag.K) f_add (QE.t (q_sl ag (qv 7) qo_n (qo_s (qv 8)))) (QE.t (q_sl ag (qv 7) (qo_s (QE.t (q_op (o_add _ ag.K) f_add (qv 8) (QE.t q_int)))) qo_n))))))) qss_nil)
    (qss_cons (qs_if (q_tcmp (o_eqU _ hr.r.units ag.K) f_eq2 (qv 2) (QE.t q_int)) (qss_one (qs_ret (q_joinV ag (qv 6) (QE.t (q_op (o_add _ ag.K) f_add (QE.t (q_op (o_add _ ag.K) f_add (QE.t (q_sl ag (qv 7) qo_n (qo_s (qv 8)))) (QE.t (q_lst (qa_cons (QT.k (q_ix ag hr.r.units (qv 7) (qv 9))) qa_nil))))) (QE.t (q_sl ag (qv 7) (qo_s (qv 8)) qo_n))))))) qss_nil)
    (qss_cons (qs_if (q_tcmp (o_eqU _ hr.r.units ag.K) f_eq2 (qv 2) (QE.t q_int)) (qss_one (qs_ret (q_joinV ag (qv 6) (QE.t (q_op (o_add _ ag.K) f_add (QE.t (q_op (o_add _ ag.K) f_add (QE.t (q_sl ag (qv 7) qo_n (qo_s (qv 8)))) (QE.t (q_lst (qa_cons (QT.k (q_ix ag hr.r.units (qv 7) (qv 9))) qa_nil))))) (QE.t (q_sl ag (qv 7) (qo_s (QE.t (q_op (o_add _ ag.K) f_add (qv 8) (QE.t q_int)))) qo_n))))))) qss_nil)
    (qss_cons (qs_if (q_tcmp (o_eqU _ hr.r.units ag.K) f_eq2 (qv 2) (QE.t q_int)) (qss_one (qs_ret (q_op (o_add _ ag.K) f_add (QE.t (q_opk (o_add _ ag.K) f_add (q_sl ag (qv 1) qo_n (qo_s (qv 3))) (QE.t (q_call (ok_l_of T) hr (qm_io 0 (qm_e (QE.fk (q_lst (qa_cons q_str (qa_cons q_str (qa_cons q_str (qa_cons q_str (qa_cons q_str (qa_cons q_str (qa_cons q_str qa_nil))))))))) qm_nil)))))) (QE.t (q_sl ag (qv 1) (qo_s (qv 3)) qo_n))))) qss_nil)
    (qss_one (qs_ret (q_op (o_add _ ag.K) f_add (QE.t (q_op (o_add _ ag.K) f_add (QE.t (q_sl ag (qv 1) qo_n (qo_s (qv 3)))) (qv 5))) (QE.t (q_sl ag (qv 1) (qo_s (QE.t (q_op (o_add _ ag.K) f_add (qv 3) (QE.t q_int)))) qo_n))))))))))))))))
theorem okx_lines_of (T : TX P w K mg base cls Ω) : Cal P w K mg base (L2.CX P w) 3 "lines_of" ["text"] (spM ⟨K, cls, P, w, Ω⟩ true [false] m_lines_of) := by
  obtain ⟨f, fd, F⟩ := T.a_lines_of
  refine calX_M (m := b_lines_of) F (F.fn.binds (fun _ _ _ _ _ _ us hl => by
    obtain ⟨_, rfl⟩ := lenN_1 hl
    rfl)) sc_lines_of rfl rfl ?_
  intro cdv A outer s H E hr tk po
  refine with_ag ⟨rfl, rfl, rfl⟩ fun ag => ?_
  exact (qss_cons (qs_if (q_tnot (q_tval (QE.t (q_isa (T := "str") (f := Kd.isStr) ag isa_str_k T.blt.b_isinstance T.blt.b_str (by decide +kernel) (qv 0))))) (qss_one (q_rai (c := "ParseError") (f := "line") T.e_ParseError hr ag tk q_int)) qss_nil)
    (qss_one (qs_ret (q_split (qv 0) (QE.t q_str)))))
theorem ok_code_in (T : TX P w K mg base cls Ω) : Cal P w K mg base CX0 3 "code_in" ["instruction_set", "line"] (spM ⟨K, cls, P, w, Ω⟩ false [false, false] m_code_in) := by
  obtain ⟨f, fd, F⟩ := T.a_code_in
  refine cal_M (m := b_code_in) F (F.fn.binds (fun _ _ _ _ _ _ us hl => by
    obtain ⟨_, _, rfl⟩ := lenN_2 hl
    rfl)) sc_code_in rfl rfl ?_
  intro cdv A outer s H E hr
  refine with_ag ⟨rfl, rfl, rfl⟩ fun ag => ?_
  exact (qss_cons (qs_if (q_tcmp (o_eqU _ hr.r.units ag.K) f_eq2 (qv 1) (QE.t (q_gl T.c_EMPTY gl_str))) (qss_one (qs_ret (q_tup qa_nil))) qss_nil)
    (qss_cons (qs_set (i := 2) (q_callT (o_tuple _ ag.K) f_tuple T.blt.b_tuple (by decide +kernel) (qta_cons (QE.t (q_lc (own := [("word", 3)]) sc_code_in.nd (qi_seq ag (q_split (qv 1) (QE.t q_str))) (blkOk_by (own := [("word", 3)]) (N := n_code_in) (sc := defScope s_code_in) (by decide +kernel)) (fun _ _ _ _ _ => (qg_n 3 sc_code_in.nd)) (fun _ _ _ _ _ => qts_nil) (fun _ _ _ _ _ => (q_call (ok_number_in T) hr (qm_e (qvk 3) (qm_e (q_gl T.c_MOST_DIGITS gl_int) qm_nil)))))) qta_nil)) sc_code_in.nd)
    (qss_one (qs_ret (q_ifx (q_tval (QE.t (q_call (ok_is_code T) hr (qm_e (qvk 0) (qm_e (qvk 2) qm_nil))))) (qvk 2) q_non)))))
theorem ok_InstructionSet_init (T : TX P w K mg base cls Ω) : MakX P w K mg base cls 4 "InstructionSet" ["self", "byte_count", "instructions"] (spM ⟨K, cls, P, w, Ω⟩ false [true, false, false] m_InstructionSet_init) := by
  obtain ⟨C, hC, cl, mC, hmk⟩ := T.k_InstructionSet
  obtain ⟨f, fd, M, F⟩ := hmk
  refine ⟨C, hC, mak_M (m := b_InstructionSet_init) M mC F (F.binds (fun _ _ _ _ _ _ us hl => by
    obtain ⟨_, _, _, rfl⟩ := lenN_3 hl
    rfl)) sc_InstructionSet_init rfl rfl ?_⟩
  intro cdv A outer s H E hr
  refine with_ag ⟨rfl, rfl, rfl⟩ fun ag => ?_
  exact (qss_cons (qs_if (q_tnot (q_tval (QE.t (q_call (ok_is_integer T) hr (qm_e (qvk 1) (qm_e (q_gl T.c_LEAST_BYTE_COUNT gl_int) (qm_e (q_gl T.c_GREATEST_BYTE_COUNT gl_int) qm_nil))))))) (qss_one qs_never) qss_nil)
    (qss_cons (qs_if (q_tnot (q_tval (QE.t (q_call (ok_are_instructions T) hr (qm_e (qvk 2) (qm_e (qvk 1) qm_nil)))))) (qss_one qs_never) qss_nil)
    (qss_cons (qs_fld (i := 0) (cs := ["InstructionSet"]) (f := "byte_count") ag T.f_byte_count (qvk 1))
    (qss_cons (qs_fld (i := 0) (cs := ["InstructionSet"]) (f := "instructions") ag T.f_instructions (qvk 2))
    (qss_one (qs_fld (i := 0) (cs := ["InstructionSet"]) (f := "by_opcode") ag T.f_by_opcode (q_dc (own := [("instruction", 3)]) sc_InstructionSet_init.nd (qi_seq ag (qvk 2)) (blkOk_by (own := [("instruction", 3)]) (N := n_InstructionSet_init) (sc := defScope s_InstructionSet_init) (by decide +kernel)) (fun _ _ _ _ _ => (qg_n 3 sc_InstructionSet_init.nd)) (fun _ _ _ _ _ => qts_nil) (fun _ _ _ _ _ => (QT.k (q_ix ag.blk hr.r.units (qv 3) (QE.t q_int)))) (fun _ _ _ _ _ => (qvk 3)))))))))
theorem okx_parse_code (T : TX P w K mg base cls Ω) : Cal P w K mg base (L2.CX P w) 4 "parse_code" ["instruction_set", "text"] (spM ⟨K, cls, P, w, Ω⟩ true [false, false] m_parse_code) := by
  obtain ⟨f, fd, F⟩ := T.a_parse_code
  refine calX_M (m := b_parse_code) F (F.fn.binds (fun _ _ _ _ _ _ us hl => by
    obtain ⟨_, _, rfl⟩ := lenN_2 hl
    rfl)) sc_parse_code rfl rfl ?_
  intro cdv A outer s H E hr tk po
  refine with_ag ⟨rfl, rfl, rfl⟩ fun ag => ?_
  exact (qss_cons (qs_set (i := 2) (q_callX (okx_lines_of T) hr tk (qm_e (qvk 1) qm_nil)) sc_parse_code.nd)
    (qss_cons (QS.cl (qs_set (i := 3) (q_call (ok_code_in T) hr (qm_e (qvk 0) (qm_e (QT.k (q_ix ag.cl hr.r.units (qv 2) (QE.t q_int))) qm_nil))) sc_parse_code.nd))
    (qss_cons (qs_if (q_tcmp o_is f_is (qv 3) (QE.t q_non)) (qss_one (q_rai (c := "ParseError") (f := "line") T.e_ParseError hr ag tk q_int)) qss_nil)
    (qss_cons (qs_if (q_tcmp op_gt f_gt (QE.t (q_callB (o_len _ ag.K ag.P ag.w) f_len T.blt.b_len PySem.boot_len (qta_cons (qv 2) qta_nil))) (QE.t q_int)) (qss_one (q_rai (c := "ParseError") (f := "line") T.e_ParseError hr ag tk q_int)) qss_nil)
    (qss_one (qs_ret (qmv 3)))))))
theorem ok_parse_code (T : TX P w K mg base cls Ω) : Cal P w K mg base CX0 4 "parse_code" ["instruction_set", "text"] (spM ⟨K, cls, P, w, Ω⟩ false [false, false] m_parse_code) := Cal.calm (okx_parse_code T)
theorem okk_parse_code_10 (T : TX P w K mg base cls Ω) : CalK P w K mg base CX0 4 "parse_code" ["instruction_set", "text"] ["text", "instruction_set"] (gK .none [1, 0] 2) (gK .non [1, 0] 2) (spM ⟨K, cls, P, w, Ω⟩ false [false, false] m_parse_code) := by
  obtain ⟨f, fd, F⟩ := T.a_parse_code
  refine Cal.kw (ok_parse_code T) F (fun _ _ _ _ _ _ us ws h => ?_) gK_rel
  obtain ⟨rfl, hl⟩ := gK_len (m := 2) h (by decide)
  match ws, hl with
  | [_, _], _ => rfl
theorem ok_l_book (T : TX P w K mg base cls Ω) : Cal P w K mg base CX0 6 "_law_book" ["_law_table_here"] (spM ⟨K, cls, P, w, Ω⟩ false [false] m_l_book) := by
  obtain ⟨f, fd, F⟩ := T.a_l_book
  refine cal_M (m := b_l_book) F (F.fn.binds (fun _ _ _ _ _ _ us hl => by
    obtain ⟨_, rfl⟩ := lenN_1 hl
    rfl)) sc_l_book rfl rfl ?_
  intro cdv A outer s H E hr
  refine with_ag ⟨rfl, rfl, rfl⟩ fun ag => ?_
  exact (qss_one (qs_ret (x_new (ok_InstructionSet_init T) hr (qm_e (QT.k (q_ix ag hr.r.units (qv 0) (QE.t q_int))) (qm_e (QT.k (q_ix ag hr.r.units (qv 0) (QE.t q_int))) qm_nil)))))
theorem gv_l_read (T : TX P w K mg base cls Ω) : Giv P w K mg base ⟨K, cls, P, w, Ω⟩ 5 "_law_read" n_l_read ["_law_ask"] "_law_ask" 2 b_l_read := by
  obtain ⟨f, fd, F⟩ := T.a_l_read
  have bb := F.fn.binds (ps := ["_law_ask"]) (fun _ _ _ _ _ _ us hl => by
    obtain ⟨_, rfl⟩ := lenN_1 hl
    rfl)
  obtain ⟨oc, od, kV, doc, pm, an, cdv, ct, osl, rfl, lk, hcd⟩ := F.fn.ex
  refine ⟨s_l_read, f, oc, od, .none, kV, doc, pm, an, cdv, ct, osl, F.mgf, F.fn.kp, lk, hcd, bb, sc_l_read, rfl, by first | exact Or.inl rfl | exact Or.inr (Or.inl rfl), rfl, ?_⟩
  intro A outer s H v rb hr act
  refine with_ag ⟨rfl, rfl, rfl⟩ fun ag => ?_
  exact (qss_cons (qs_set (i := 1) (q_tup (qa_cons q_str (qa_cons q_non qa_nil))) sc_l_read.nd)
    (qss_cons (qs_try rfl rfl (fun W pn xe tk po => (qss_one (qs_set (i := 1) (q_tup (qa_cons q_str (qa_cons (act W pn xe _ _ tk) qa_nil))) sc_l_read.nd)))
    (q_has 2 T.h_ParseError sc_l_read.nd (fun _ => (qss_one (qs_set (i := 1) (q_tup (qa_cons q_str (qa_cons (QT.k (q_xF (f := "line") ag.su T.ex T.x_line (qv 2))) qa_nil))) sc_l_read.nd)))
    (q_hon T.h_OverlapError (fun _ => (qss_one (qs_set (i := 1) (q_tup (qa_cons q_str (qa_cons q_non qa_nil))) sc_l_read.nd)))
    qh_nil)))
    (qss_one (qs_ret (qmv 1)))))
theorem ok_l_right (T : TX P w K mg base cls Ω) : Cal P w K mg base CX0 7 "_law_right" ["_law_box_here", "_law_table_here", "_law_cells"] (spM ⟨K, cls, P, w, Ω⟩ false [true, false, false] m_l_right_k63) := by
  obtain ⟨f, fd, c, t, F⟩ := T.a_l_right
  refine cal_ML (m := b_l_right_k63) F (F.binds (fun _ _ _ _ _ us hl => match us, hl with | [_, _, _], _ => rfl)) sc_l_right rfl rfl ?_
  intro A outer s H E hr
  refine with_ag ⟨rfl, rfl, rfl⟩ fun ag => ?_
  exact (qss_cons (qs_parN ag (qa_cons (q_call (ok_l_book T) hr (qm_e (qvk 1) qm_nil)) (qa_cons (q_call (ok_l_cells_page T) hr (qm_e (qvk 2) qm_nil)) qa_nil)) (qns_cons 6 sc_l_right.nd (qns_cons 3 sc_l_right.nd qns_nil)))
    (qss_cons (qs_if (q_tcmp (o_neU _ hr.r.units ag.K) f_ne2 (QE.t (q_callB (o_reprV _ hr.g hr.r.units ag.K) f_reprV T.blt.b_repr (by decide +kernel) (qta_cons (QE.t (q_lst (qa_cons (q_call (ok_format_code T) hr (qm_e (qvk 2) qm_nil)) (qa_cons (q_callK (okk_format_code_0 T) hr (qk_e (qvk 2) qk_nil)) qa_nil)))) qta_nil))) (QE.t (q_callB (o_reprV _ hr.g hr.r.units ag.K) f_reprV T.blt.b_repr (by decide +kernel) (qta_cons (QE.t (q_lst (qa_cons (qvk 3) (qa_cons (qvk 3) qa_nil)))) qta_nil)))) (qss_one (qs_ret q_bl)) qss_nil)
    (qss_cons (qs_if (q_tcmp (o_neU _ hr.r.units ag.K) f_ne2 (QE.t (q_callB (o_reprV _ hr.g hr.r.units ag.K) f_reprV T.blt.b_repr (by decide +kernel) (qta_cons (QE.t (q_lst (qa_cons (q_call (ok_parse_code T) hr (qm_e (qvk 6) (qm_e (qvk 3) qm_nil))) (qa_cons (q_callK (okk_parse_code_10 T) hr (qk_e (qvk 3) (qk_e (qvk 6) qk_nil))) qa_nil)))) qta_nil))) (QE.t (q_callB (o_reprV _ hr.g hr.r.units ag.K) f_reprV T.blt.b_repr (by decide +kernel) (qta_cons (QE.t (q_lst (qa_cons (qvk 2) (qa_cons (qvk 2) qa_nil)))) qta_nil)))) (qss_one (qs_ret q_bl)) qss_nil)
    (qss_cons (qs_for PassesOwn.never (qi_rng1 T.blt.b_range (qta_cons (QE.t q_int) qta_nil)) (qg_n 4 sc_l_right.nd) (qss_cons (qs_set (i := 5) (q_call (ok_l_bent T) hr (qm_io 0 (qm_e (qvk 3) qm_nil))) sc_l_right.nd)
    (qss_cons (qs_if (q_tcmp (o_eqU _ hr.r.units ag.K) f_eq2 (QE.t (q_call (ok_l_take T) hr (qm_io 0 (qm_e q_int qm_nil)))) (QE.t q_int)) (qss_one (qs_set (i := 5) (q_call (ok_l_bent T) hr (qm_io 0 (qm_e (qvk 5) qm_nil))) sc_l_right.nd)) qss_nil)
    (qss_one (qs_if (q_tcmpk (o_neU _ hr.r.units ag.K) f_ne2 (q_callB (o_reprV _ hr.g hr.r.units ag.K) f_reprV T.blt.b_repr (by decide +kernel) (qta_cons (QE.t (q_lam (caps := [5, 6]) (kb := 4) ag rfl (gv_l_read T) F.tb rfl cx_qual F.hm F.hu hr (LamX.lamS_by (sc := defScope s_l_right) (by decide +kernel)) (fun f c A outer s H E hr tk => (q_callX (okx_parse_code T) hr tk (qm_e (qvk 6) (qm_e (qvk 5) qm_nil)))) qa_nil)) qta_nil)) (QE.t (q_callB (o_reprV _ hr.g hr.r.units ag.K) f_reprV T.blt.b_repr (by decide +kernel) (qta_cons (QE.t (q_call (ok_l_due T) hr (qm_e (qvk 1) (qm_e (qvk 5) qm_nil)))) qta_nil)))) (qss_one (qs_ret q_bl)) qss_nil)))))
    (qss_one (qs_ret q_bl))))))
theorem qb_law (T : TX P w K mg base cls Ω) {f : Addr} : QBody P w K mg base cls Ω 7 "law" s_law f n_law [false] b_law_k63 := by
  intro cdv A outer s H E hr
  refine with_ag ⟨rfl, rfl, rfl⟩ fun ag => ?_
  exact (qss_cons (qs_for PassesOwn.never (qi_rng1 T.blt.b_range (qta_cons (QE.t (q_callB (call_max2 rfl) f_max2 T.blt.b_max (by decide +kernel) (qta_cons (QE.t q_int) (qta_cons (QE.t (q_callB (call_min2 rfl) f_min2 T.blt.b_min (by decide +kernel) (qta_cons (QE.t q_int) (qta_cons (QE.t (q_callB (o_len _ ag.K ag.P ag.w) f_len T.blt.b_len PySem.boot_len (qta_cons (qv 0) qta_nil))) qta_nil)))) qta_nil)))) qta_nil)) (qg_n 1 sc_law.nd) (qss_cons (qs_set (i := 2) (q_call (ok_l_box T) hr (qm_e (qvk 0) (qm_e (qvk 1) qm_nil))) sc_law.nd)
    (qss_cons (qs_set (i := 3) (q_call (ok_l_table T) hr (qm_io 2 (qm_e (QE.fk (q_call (ok_l_of T) hr (qm_io 2 (qm_e (QE.fk (q_lst (qa_cons q_int (qa_cons q_int (qa_cons q_int (qa_cons q_int qa_nil)))))) qm_nil)))) (qm_e q_int qm_nil)))) sc_law.nd)
    (qss_cons (qs_set (i := 4) (q_lst (qa_cons (q_tup qa_nil) (qa_cons (q_call (ok_l_bytes T) hr (qm_io 2 (qm_e (qvk 3) (qm_e (QE.fk (q_opk (o_add _ ag.K) f_add q_int (QE.t (q_call (ok_l_take T) hr (qm_io 2 (qm_e q_int qm_nil)))))) qm_nil)))) (qa_cons (q_call (ok_l_bytes T) hr (qm_io 2 (qm_e (qvk 3) (qm_e (QE.fk (q_call (ok_l_take T) hr (qm_io 2 (qm_e q_int qm_nil)))) qm_nil)))) qa_nil)))) sc_law.nd)
    (qss_cons (qs_expr (QE.t (q_lm ag PySem.F.slot_list_append PySem.F.type_list_append mt_append m_append (qp_v 4) (qa_cons (q_callT (o_tuple _ ag.K) f_tuple T.blt.b_tuple (by decide +kernel) (qta_cons (QE.t (q_lc (own := [("_law_at", 5)]) sc_law.nd (qi_rng1 T.blt.b_range (qta_cons (QE.t q_int) qta_nil)) (blkOk_by (own := [("_law_at", 5)]) (N := n_law) (sc := defScope s_law) (by decide +kernel)) (fun _ _ _ _ _ => (qg_n 5 sc_law.nd)) (fun _ _ _ _ _ => qts_nil) (fun _ _ _ _ _ => (q_call (ok_l_take T) hr (qm_io 2 (qm_e (QT.k (q_ix ag.blk hr.r.units (qv 3) (QE.t q_int))) qm_nil)))))) qta_nil)) qa_nil))))
    (qss_one (qs_if (q_tnot (q_tval (QE.t (q_callB (k_all _ rfl ag.K) f_all T.blt.b_all (by decide +kernel) (qta_cons (QE.t (q_lc (own := [("_law_cells", 6)]) sc_law.nd (qi_seq ag (qvk 4)) (blkOk_by (own := [("_law_cells", 6)]) (N := n_law) (sc := defScope s_law) (by decide +kernel)) (fun _ _ _ _ _ => (qg_n 6 sc_law.nd)) (fun _ _ _ _ _ => qts_nil) (fun _ _ _ _ _ => (q_call (ok_l_right T) hr (qm_io 2 (qm_e (qvk 3) (qm_e (qvk 6) qm_nil))))))) qta_nil))))) (qss_one (qs_ret q_bl)) qss_nil)))))))
    (qss_one (qs_ret q_bl)))
end
end Mi
set_option maxHeartbeats 4000000
namespace Mi
open PySem PySem.Spec PyProof.Rows L2 RZ Ov PpSet
/-- keeps simp from taking a law as a mere unfolding -/
theorem nrfl {α : Sort _} {a b : α} (h : a = b) : a = b := h
/-! ### mirrors are run by simp; what comes behind a step waits for it -/
/-- a mark that holds what comes next: simp leaves it as it is -/
abbrev Tg {α : Sort _} (_ : α) : Type := Unit
def R.bindL {α β : Type} (r : R α) (f : α → Env → R β) (_ : Tg f) : R β := r.bind f
def R.bind0L {α β : Type} (r : R α) (f : α → Env → R β) (_ : Tg f) : R β := r.bind0 f
def R.ite {α : Type} (b : Bool) (x y : Unit → R α) (_ : Tg x) (_ : Tg y) : R α := match b with | true => x () | false => y ()
theorem R.ite_t {α : Type} {x y : Unit → R α} : R.ite true x y () () = x () := nrfl rfl
theorem R.ite_f {α : Type} {x y : Unit → R α} : R.ite false x y () () = y () := nrfl rfl
def getR {α : Type} (o : Option (Option D)) (k : D → R α) (_ : Tg k) : R α := match o with | some (some d) => k d | _ => .no
theorem getR_s {α : Type} {d : D} {k : D → R α} : getR (some (some d)) k () = k d := nrfl rfl
def liftK {α : Type} (o : Option D) (k : D → R α) (_ : Tg k) : R α := match o with | some d => k d | none => .no
theorem liftK_s {α : Type} {d : D} {k : D → R α} : liftK (some d) k () = k d := nrfl rfl
section
variable {env : Env} {m n l : ME} {c x y : MB} {mS nS : MS} {ms : ML} {d : D} {i j : Nat}
theorem v_bo {α β : Type} {a : α} {e : Env} {f : α → Env → R β} : (R.ok a e).bind f = f a e := nrfl rfl
theorem v_b0 {α β : Type} {a : α} {e : Env} {f : α → Env → R β} : (R.ok a e).bind0 f = f a e := nrfl rfl
theorem b_bo {α β : Type} {a : α} {e : Env} {f : α → Env → R β} : (R.ok a e).bindL f () = f a e := nrfl rfl
theorem b_b0 {α β : Type} {a : α} {e : Env} {f : α → Env → R β} : (R.ok a e).bind0L f () = f a e := nrfl rfl
theorem v_c : eC d env = .ok d env := nrfl rfl
theorem v_v : eV i env = getR env[i]? (fun d => .ok d env) () := by unfold eV getR; rfl
theorem v_mv : eMv i env = getR env[i]? (fun d => .ok d (env.set i none)) () := by unfold eMv getR; rfl
theorem v_vk : eVk i env = getR env[i]? (fun d => R.ite (fzn d) (fun _ => .ok d env) (fun _ => .ok (fz d) (env.set i (some (fz d)))) () ()) () := by
  unfold eVk getR
  rcases env[i]? with _ | _ | d
  · rfl
  · rfl
  · simp only; cases h : fzn d <;> rfl
theorem v_k : eK m env = (m env).bindL (fun d e => R.ite (fzn d) (fun _ => .ok d e) (fun _ => .no) () ()) () := by
  simp only [R.bindL, R.bind0L]
  unfold eK
  congr 1
  funext d e
  cases h : fzn d <;> rfl
theorem v_fk : eFk m env = (m env).bindL (fun d e => R.ite (fzn d) (fun _ => .ok d e) (fun _ => .ok (fz d) e) () ()) () := by
  simp only [R.bindL, R.bind0L]
  unfold eFk
  congr 1
  funext d e
  cases h : fzn d <;> rfl
theorem v_nil : lNil env = .ok [] env := nrfl rfl
theorem v_cons : lCons m ms env = (m env).bindL (fun d e => (ms e).bindL (fun ds e => .ok (d :: ds) e) ()) () := nrfl rfl
theorem v_1 {f : D → Option D} : e1 f m env = (m env).bindL (fun d e => liftK (f d) (fun r => .ok r e) ()) () := nrfl rfl
theorem v_2 {f : D → D → Option D} : e2 f m n env = (m env).bindL (fun d e => (n e).bindL (fun d' e => liftK (f d d') (fun r => .ok r e) ()) ()) () := nrfl rfl
theorem v_L {f : List D → Option D} : eL f ms env = (ms env).bindL (fun ds e => liftK (f ds) (fun r => .ok r e) ()) () := nrfl rfl
def asB {α : Type} (d : D) (k : Bool → R α) (_ : Tg k) : R α := match d with | .bl b => k b | _ => .no
theorem asB_b {α : Type} {b : Bool} {k : Bool → R α} : asB (.bl b) k () = k b := nrfl rfl
theorem v_bB : bB m env = (m env).bindL (fun d e => asB d (fun b => .ok b e) ()) () := by simp only [R.bindL, R.bind0L]; unfold bB; congr 1
theorem v_bAnd : bAnd x y env = (x env).bindL (fun b e => R.ite b (fun _ => y e) (fun _ => .ok false e) () ()) () := by simp only [R.bindL, R.bind0L]; unfold bAnd; congr 1; funext b e; cases b <;> rfl
theorem v_bOr : bOr x y env = (x env).bindL (fun b e => R.ite b (fun _ => .ok true e) (fun _ => y e) () ()) () := by simp only [R.bindL, R.bind0L]; unfold bOr; congr 1; funext b e; cases b <;> rfl
theorem v_bNot : bNot x env = (x env).bindL (fun b e => .ok (!b) e) () := nrfl rfl
theorem v_bYes : bYes env = .ok true env := nrfl rfl
theorem v_if : eIf c m n env = (c env).bindL (fun b e => R.ite b (fun _ => m e) (fun _ => n e) () ()) () := by simp only [R.bindL, R.bind0L]; unfold eIf; congr 1; funext b e; cases b <;> rfl
theorem v_and : eAnd m n env = (m env).bindL (fun d e => asB d (fun b => R.ite b (fun _ => n e) (fun _ => .ok (.bl false) e) () ()) ()) () := by
  simp only [R.bindL, R.bind0L]
  unfold eAnd; congr 1; funext d e
  cases d with
  | bl b => cases b <;> rfl
  | _ => rfl
theorem v_or : eOr m n env = (m env).bindL (fun d e => asB d (fun b => R.ite b (fun _ => .ok (.bl true) e) (fun _ => n e) () ()) ()) () := by
  simp only [R.bindL, R.bind0L]
  unfold eOr; congr 1; funext d e
  cases d with
  | bl b => cases b <;> rfl
  | _ => rfl
theorem v_not : eNot m env = (m env).bindL (fun d e => asB d (fun b => .ok (.bl (!b)) e) ()) () := by
  simp only [R.bindL, R.bind0L]
  unfold eNot; congr 1
theorem v_tup : eTup ms env = (ms env).bindL (fun ds e => R.ite (fznL ds && decide (ds.length ≤ sizeLine)) (fun _ => .ok (.tup ds) e) (fun _ => .no) () ()) () := by
  simp only [R.bindL, R.bind0L]
  unfold eTup; congr 1; funext ds e; cases h : (fznL ds && decide (ds.length ≤ sizeLine)) <;> simp [R.ite]
theorem v_lst : eLst ms env = (ms env).bindL (fun ds e => R.ite (decide (ds.length ≤ sizeLine)) (fun _ => .ok (.lst true ds) e) (fun _ => .no) () ()) () := by
  simp only [R.bindL, R.bind0L]
  unfold eLst; congr 1; funext ds e
  by_cases h : ds.length ≤ sizeLine
  · rw [if_pos h, decide_eq_true h]; rfl
  · rw [if_neg h, decide_eq_false h]; rfl
def asI {α : Type} (d : D) (cs : List String) (f : String) (k : D → R α) (_ : Tg k) : R α := match d with | .ins _ c fs => R.ite (cs.contains c) (fun _ => liftK (fs.lookup f) k ()) (fun _ => .no) () () | _ => .no
theorem asI_i {α : Type} {o : Bool} {cn : String} {fs : List (String × D)} {cs : List String} {f : String} {k : D → R α} : asI (.ins o cn fs) cs f k () = R.ite (cs.contains cn) (fun _ => liftK (fs.lookup f) k ()) (fun _ => .no) () () := nrfl rfl
theorem v_fld {cs : List String} {f : String} : eFld cs f m env = (m env).bindL (fun d e => asI d cs f (fun r => .ok r e) ()) () := by
  simp only [R.bindL, R.bind0L]
  unfold eFld asI; congr 1; funext d e
  cases d with
  | ins o cn fs =>
    simp only
    cases h : cs.contains cn
    · rfl
    · simp only [if_true, R.ite]
      unfold lift liftK
      cases fs.lookup f <;> rfl
  | _ => rfl
def optI {α : Type} (d : D) (k : Int → R α) (_ : Tg k) : R α := match d with | .int i => k i | _ => .no
theorem optI_i {α : Type} {i : Int} {k : Int → R α} : optI (.int i) k () = k i := nrfl rfl
theorem v_oN : oN env = .ok none env := nrfl rfl
theorem v_oS : oS m env = (m env).bindL (fun d e => optI d (fun i => .ok (some i) e) ()) () := by simp only [R.bindL, R.bind0L]; unfold oS optI; rfl
theorem v_sl {lo hi : MO} : eSl m lo hi env = (m env).bindL (fun d e => (lo e).bindL (fun a e => (hi e).bindL (fun b e => liftK (fSl d a b) (fun r => .ok r e) ()) ()) ()) () := nrfl rfl
theorem v_rg1 : eRg1 m env = (m env).bindL (fun d e => optI d (fun i => .ok (0, i) e) ()) () := by simp only [R.bindL, R.bind0L]; unfold eRg1 optI; rfl
theorem v_rg2 : eRg2 m n env = (m env).bindL (fun d e => (n e).bindL (fun d2 e => optI d (fun i => optI d2 (fun j => .ok (i, j) e) ()) ()) ()) () := by
  simp only [R.bindL, R.bind0L]
  unfold eRg2 optI; congr 1; funext d e; congr 1; funext d2 e; cases d <;> cases d2 <;> rfl
theorem v_lrg {g : Env → R (Int × Int)} : eLRg g env = (g env).bindL (fun ij e => R.ite (rgOk ij.1 ij.2) (fun _ => .ok (.lst true (rgL ij.1 ij.2)) e) (fun _ => .no) () ()) () := by
  simp only [R.bindL, R.bind0L]
  unfold eLRg; congr 1; funext ij e; cases h : rgOk ij.1 ij.2 <;> rfl
theorem v_trg {g : Env → R (Int × Int)} : eTRg g env = (g env).bindL (fun ij e => R.ite (rgOk ij.1 ij.2) (fun _ => .ok (.tup (rgL ij.1 ij.2)) e) (fun _ => .no) () ()) () := by
  simp only [R.bindL, R.bind0L]
  unfold eTRg; congr 1; funext ij e; cases h : rgOk ij.1 ij.2 <;> rfl
/-! chains -/
def chainK {α : Type} (o : Option D) (k q : Unit → R α) (_ : Tg k) (_ : Tg q) : R α := match o with | some (.bl true) => k () | some (.bl false) => q () | _ => .no
theorem chainK_b {α : Type} {b : Bool} {k q : Unit → R α} : chainK (some (.bl b)) k q () () = R.ite b k q () () := by cases b <;> rfl
theorem v_chain {f f' : D → D → Option D} : eChain f f' m n l env = (m env).bindL (fun x e => (n e).bindL (fun y e => chainK (f x y) (fun _ => (l e).bindL (fun z e => liftK (f' y z) (fun r => .ok r e) ()) ()) (fun _ => .ok (.bl false) e) () ()) ()) () := nrfl rfl
/-! statements -/
def Fl.k (fl : Fl) (e : Env) (k : Unit → R Fl) (_ : Tg k) : R Fl := match fl with | .nx => k () | fl => .ok fl e
theorem Fl.k_nx {e : Env} {k : Unit → R Fl} : Fl.k .nx e k () = k () := nrfl rfl
theorem Fl.k_rt {e : Env} {k : Unit → R Fl} : Fl.k (.rt d) e k () = .ok (.rt d) e := nrfl rfl
theorem Fl.k_bk {e : Env} {k : Unit → R Fl} : Fl.k .bk e k () = .ok .bk e := nrfl rfl
theorem Fl.k_ct {e : Env} {k : Unit → R Fl} : Fl.k .ct e k () = .ok .ct e := nrfl rfl
theorem v_seq : sSeq mS nS env = (mS env).bindL (fun fl e => Fl.k fl e (fun _ => nS e) ()) () := nrfl rfl
theorem v_pass : sPass env = .ok .nx env := nrfl rfl
theorem v_bk : sBk env = .ok .bk env := nrfl rfl
theorem v_ct : sCt env = .ok .ct env := nrfl rfl
theorem v_ret : sRet m env = (m env).bindL (fun d e => .ok (.rt d) e) () := nrfl rfl
theorem v_retN : sRetN env = .ok (.rt .non) env := nrfl rfl
theorem v_expr : sExpr m env = (m env).bindL (fun _ e => .ok .nx e) () := nrfl rfl
theorem v_sif : sIf c mS nS env = (c env).bindL (fun b e => R.ite b (fun _ => mS e) (fun _ => nS e) () ()) () := by simp only [R.bindL, R.bind0L]; unfold sIf; congr 1; funext b e; cases b <;> rfl
def optE {α : Type} (o : Option Env) (k : Env → R α) (_ : Tg k) : R α := match o with | some e => k e | none => .no
theorem optE_s {α : Type} {e : Env} {k : Env → R α} : optE (some e) k () = k e := nrfl rfl
theorem v_asg {g : MG} : sAsg g m env = (m env).bindL (fun d e => optE (g d e) (fun e' => .ok .nx e') ()) () := by simp only [R.bindL, R.bind0L]; unfold sAsg optE; congr 1
theorem v_gN : gN i d env = some (env.set i (some d)) := nrfl rfl
theorem v_gT {gs : MGs} {ds : List D} : gT gs (.tup ds) env = gs ds env := nrfl rfl
theorem v_gsN : gsNil [] env = some env := nrfl rfl
theorem v_gsC {g : MG} {gs : MGs} {ds : List D} : gsCons g gs (d :: ds) env = (g d env).bind (gs ds) := nrfl rfl
def k2 {α : Type} (ds : List D) (k : D → D → R α) (_ : Tg k) : R α := match ds with | [d1, d2] => k d1 d2 | _ => .no
theorem k2_s {α : Type} {d1 d2 : D} {k : D → D → R α} : k2 [d1, d2] k () = k d1 d2 := nrfl rfl
def k3 {α : Type} (ds : List D) (k : D → D → D → R α) (_ : Tg k) : R α := match ds with | [d1, d2, d3] => k d1 d2 d3 | _ => .no
theorem k3_s {α : Type} {d1 d2 d3 : D} {k : D → D → D → R α} : k3 [d1, d2, d3] k () = k d1 d2 d3 := nrfl rfl
theorem v_par : sPar i j ms env = (ms env).bindL (fun ds e => k2 ds (fun d1 d2 => .ok .nx ((e.set i (some d1)).set j (some d2))) ()) () := by simp only [R.bindL, R.bind0L]; unfold sPar k2; rfl
theorem v_par3 {k : Nat} : sPar3 i j k ms env = (ms env).bindL (fun ds e => k3 ds (fun d1 d2 d3 => .ok .nx (((e.set i (some d1)).set j (some d2)).set k (some d3))) ()) () := by simp only [R.bindL, R.bind0L]; unfold sPar3 k3; rfl
theorem v_aug {f : D → D → Option D} : sAug i f m env = getR env[i]? (fun d => (m env).bindL (fun d' e => liftK (f d d') (fun r => .ok .nx (e.set i (some r))) ()) ()) () := by
  simp only [R.bindL, R.bind0L]
  unfold sAug getR
  rcases env[i]? with _ | _ | d
  · rfl
  · rfl
  · rfl
theorem v_put {p : Plc} : sPut p m n env = (m env).bindL (fun d e => liftK (getP e p) (fun _ => (n e).bindL (fun i e => liftK (getP e p) (fun c => liftK (fSet c i d) (fun c' => .ok .nx (setP e p c')) ()) ()) ()) ()) () := by
  simp only [R.bindL, R.bind0L]
  unfold sPut liftK; congr 1
def insK {α : Type} (o : Option (Option D)) (k : String → List (String × D) → R α) (_ : Tg k) : R α := match o with | some (some (.ins true c fs)) => k c fs | _ => .no
theorem insK_s {α : Type} {c : String} {fs : List (String × D)} {k : String → List (String × D) → R α} : insK (some (some (.ins true c fs))) k () = k c fs := nrfl rfl
theorem v_sfld {cs : List String} {f : String} : sFldD i cs f m env = (m env).bindL (fun d e => insK e[i]? (fun c fs => R.ite (cs.contains c && decide (fs.length < 1000)) (fun _ => .ok .nx (e.set i (some (.ins true c (putD f d fs))))) (fun _ => .no) () ()) ()) () := by
  simp only [R.bindL, R.bind0L]
  unfold sFldD insK; congr 1; funext d e
  rcases e[i]? with _ | _ | d
  · rfl
  · rfl
  · cases d with
    | ins o c fs =>
      cases o
      · rfl
      · simp only; cases hb : (cs.contains c && decide (fs.length < 1000)) <;> rfl
    | _ => rfl
theorem v_for {it : MI} {g : MG} : sFor it g mS env = (it env).bindL (fun ds e => forL g mS ds e) () := nrfl rfl
def optL {α : Type} (o : Option (List D)) (k : List D → R α) (_ : Tg k) : R α := match o with | some e => k e | none => .no
theorem optL_s {α : Type} {e : List D} {k : List D → R α} : optL (some e) k () = k e := nrfl rfl
theorem v_iSeq : iSeq m env = (m env).bindL (fun d e => optL (seqD (fz d)) (fun ds => .ok ds e) ()) () := by simp only [R.bindL, R.bind0L]; unfold iSeq optL; congr 1
theorem v_iOf {f : List D → Option (List D)} : iOf f ms env = (ms env).bindL (fun ds e => optL (f ds) (fun r => .ok r e) ()) () := by simp only [R.bindL, R.bind0L]; unfold iOf optL; congr 1
def strK {α : Type} (d : D) (k : Str → R α) (_ : Tg k) : R α := match d with | .str x => k x | _ => .no
theorem strK_s {α : Type} {x : Str} {k : Str → R α} : strK (.str x) k () = k x := nrfl rfl
theorem v_iStr : iStrD m env = (m env).bindL (fun d e => strK d (fun x => .ok (x.cps.toList.map fun c => .str ⟨#[c]⟩) e) ()) () := by simp only [R.bindL, R.bind0L]; unfold iStrD strK; rfl
theorem v_lc {it : MI} {g : MG} {ws : List Nat} : eLc it g c m ws env = (it env).bindL (fun ds e => (lcF g c m ws ds [] (wipeE e ws)).bind0L (fun r e => .ok (.lst true r) e) ()) () := nrfl rfl
def mlK {α : Type} (o : Option D) (k : List D → R α) (_ : Tg k) : R α := match o with | some (.lst true ds) => k ds | _ => .no
theorem mlK_s {α : Type} {ds : List D} {k : List D → R α} : mlK (some (.lst true ds)) k () = k ds := nrfl rfl
def optF {α : Type} (o : Option (D × List D)) (k : D → List D → R α) (_ : Tg k) : R α := match o with | some p => k p.1 p.2 | none => .no
theorem optF_s {α : Type} {d : D} {ds : List D} {k : D → List D → R α} : optF (some (d, ds)) k () = k d ds := nrfl rfl
theorem v_mList {p : Plc} {f : List D → List D → Option (D × List D)} : mList p ms f env = mlK (getP env p) (fun _ => (ms env).bindL (fun as e => mlK (getP e p) (fun ds => optF (f ds as) (fun d ds' => .ok d (setP e p (.lst true ds'))) ()) ()) ()) () := by
  simp only [R.bindL, R.bind0L]
  unfold mList mlK optF
  rcases getP env p with _ | d
  · rfl
  · cases d with
    | lst o ds =>
      cases o
      · rfl
      · simp only
        congr 1; funext as e
        rcases getP e p with _ | d
        · rfl
        · cases d with
          | lst o ds =>
            cases o
            · rfl
            · simp only; rcases f ds as with _ | ⟨x, y⟩ <;> rfl
          | _ => rfl
    | _ => rfl
def joinO (o : Option (Option D)) : Option D := match o with | some (some d) => some d | _ => none
theorem joinO_s {d : D} : joinO (some (some d)) = some d := nrfl rfl
theorem v_gp {i : Nat} : getP env (i, none) = joinO env[i]? := nrfl rfl
theorem v_gq {i : Nat} : setP env (i, none) d = env.set i (some d) := nrfl rfl
def fldO (o : Option (Option D)) (cs : List String) (f : String) : Option D := match o with | some (some (.ins true c fs)) => if cs.contains c then fs.lookup f else none | _ => none
theorem fldO_s {c : String} {fs : List (String × D)} {cs : List String} {f : String} : fldO (some (some (.ins true c fs))) cs f = if cs.contains c then fs.lookup f else none := nrfl rfl
theorem v_gf {i : Nat} {cs : List String} {f : String} : getP env (i, some (cs, f)) = fldO env[i]? cs f := nrfl rfl
def setO (o : Option (Option D)) (env : Env) (i : Nat) (f : String) (e : D) : Env := match o with | some (some (.ins o c fs)) => env.set i (some (.ins o c (putD f e fs))) | _ => env
theorem setO_s {o : Bool} {c : String} {fs : List (String × D)} {i : Nat} {f : String} {e : D} : setO (some (some (.ins o c fs))) env i f e = env.set i (some (.ins o c (putD f e fs))) := nrfl rfl
theorem v_gs {i : Nat} {cs : List String} {f : String} {e : D} : setP env (i, some (cs, f)) e = setO env[i]? env i f e := nrfl rfl
/-! calls -/
def Rf.back (r : Rf) (as : List Arg) (e2 : Env) : R D := match r with
  | .ok d ios => optE (backA as ios e2) (fun e3 => .ok d e3) ()
  | .ex x ios => (match backA as ios e2 with | some e3 => .ex x e3 | none => .no)
  | .no => .no
theorem Rf.back_ok {d : D} {ios : List D} {as : List Arg} {e2 : Env} : Rf.back (.ok d ios) as e2 = optE (backA as ios e2) (fun e3 => .ok d e3) () := nrfl rfl
def optP {α : Type} (o : Option (List D × Env)) (k : List D → Env → R α) (_ : Tg k) : R α := match o with | some p => k p.1 p.2 | none => .no
theorem optP_s {α : Type} {p : List D × Env} {k : List D → Env → R α} : optP (some p) k () = k p.1 p.2 := nrfl rfl
theorem v_callF {f : Fun} {as : List Arg} {mss : List (Option D)} : callF f as mss env = optP (fillA as mss env) (fun ds e2 => (f ds).back as e2) () := by
  unfold callF optP Rf.back
  cases fillA as mss env with
  | none => rfl
  | some p =>
    obtain ⟨ds, e2⟩ := p
    simp only
    cases f ds with
    | ok d ios => simp only; unfold optE; cases backA as ios e2 <;> rfl
    | ex x ios => rfl
    | no => rfl
theorem v_call {f : Fun} {as : List Arg} : eCall f as env = (eArgs as env).bindL (fun mss e => callF f as mss e) () := nrfl rfl
theorem v_aN : eArgs [] env = .ok [] env := nrfl rfl
theorem v_aE {as : List Arg} : eArgs (.e m :: as) env = (m env).bindL (fun d e => (eArgs as e).bindL (fun r e => .ok (some d :: r) e) ()) () := nrfl rfl
theorem v_aI {as : List Arg} : eArgs (.io j :: as) env = getR env[j]? (fun _ => (eArgs as env).bindL (fun r e => .ok (none :: r) e) ()) () := by
  simp only [R.bindL, R.bind0L]
  rw [eArgs]; unfold getR; rfl
theorem v_fN {mss : List (Option D)} : fillA [] mss env = some ([], env) := by cases mss <;> rfl
theorem v_fE {as : List Arg} {mss : List (Option D)} : fillA (.e m :: as) (some d :: mss) env = (fillA as mss env).map fun r => (d :: r.1, r.2) := by rw [fillA]
def optD {α : Type} (o : Option (Option D)) (k : D → Option α) (_ : Tg k) : Option α := match o with | some (some d) => k d | _ => none
theorem optD_s {α : Type} {d : D} {k : D → Option α} : optD (some (some d)) k () = k d := nrfl rfl
theorem v_fI {as : List Arg} {mss : List (Option D)} {o : Option D} : fillA (.io j :: as) (o :: mss) env = optD env[j]? (fun d => (fillA as mss (env.set j none)).map fun r => (d :: r.1, r.2)) () := by
  rw [fillA]
  unfold optD
  rcases env[j]? with _ | _ | d <;> rfl
theorem v_kN : backA [] [] env = some env := by rw [backA]
theorem v_kE {as : List Arg} {ios : List D} : backA (.e m :: as) ios env = backA as ios env := by rw [backA]
theorem v_kI {as : List Arg} {ios : List D} : backA (.io j :: as) (d :: ios) env = backA as ios (env.set j (some d)) := by rw [backA]
theorem v_methE {cn mn : String} {f : Fun} {as : List Arg} : eMeth cn mn f (.e m) as env = (m env).bindL (fun d e => R.ite (recv cn mn d) (fun _ => (eArgs as e).bindL (fun ms e => callF f (.e m :: as) (some d :: ms) e) ()) (fun _ => .no) () ()) () := by
  simp only [R.bindL, R.bind0L]
  show ((m env).bind fun d e => if recv cn mn d then (eArgs as e).bind fun ms e => callF f (.e m :: as) (some d :: ms) e else .no) = _
  congr 1; funext d e; cases h : recv cn mn d <;> rfl
theorem v_methI {cn mn : String} {f : Fun} {as : List Arg} : eMeth cn mn f (.io j) as env = getR env[j]? (fun d => R.ite (recv cn mn d) (fun _ => (eArgs as env).bindL (fun ms e => callF f (.io j :: as) (none :: ms) e) ()) (fun _ => .no) () ()) () := by
  simp only [R.bindL, R.bind0L]
  unfold eMeth getR
  simp only
  rcases env[j]? with _ | _ | d
  · rfl
  · rfl
  · simp only; cases h : recv cn mn d <;> rfl
def Rf.newB (r : Rf) (as : List Arg) (e2 : Env) : R D := match r with
    | .ok .non (self :: ios) => optE (backA as ios e2) (fun e3 => .ok self e3) ()
    | .ex x (_ :: ios) => (match backA as ios e2 with | some e3 => .ex x e3 | none => .no)
    | _ => .no
theorem Rf.newB_ok {s : D} {ios : List D} {as : List Arg} {e2 : Env} : Rf.newB (.ok .non (s :: ios)) as e2 = optE (backA as ios e2) (fun e3 => .ok s e3) () := nrfl rfl
theorem v_new {cn : String} {f : Fun} {as : List Arg} : eNew cn f as env = (eArgs as env).bindL (fun mss e => optP (fillA as mss e) (fun ds e2 => (f (.ins true cn [] :: ds)).newB as e2) ()) () := by
  simp only [R.bindL, R.bind0L]
  unfold eNew
  congr 1
  funext mss e
  unfold callN optP Rf.newB
  cases fillA as mss e with
  | none => rfl
  | some p =>
    obtain ⟨ds, e2⟩ := p
    simp only
    cases f (.ins true cn [] :: ds) with
    | ok d ios =>
      cases d <;> cases ios <;> first | rfl | (simp only; unfold optE; cases backA as _ e2 <;> rfl)
    | ex x ios => cases ios <;> rfl
    | no => rfl
/-- what a def gives -/
def fin (io : List Bool) (r : R Fl) : Rf := match r with
  | .ok (.rt d) env => (match allS (pick io env) with | some ios => .ok d ios | none => .no)
  | .ok .nx env => (match allS (pick io env) with | some ios => .ok .non ios | none => .no)
  | .ok _ _ => .no
  | .ex x env => (match allS (pick io env) with | some ios => .ex x ios | none => .no)
  | .no => .no
theorem v_fn {n : Nat} {io : List Bool} {ds : List D} : fnOf n io mS ds = fin io (mS (ds.map some ++ List.replicate n none)) := nrfl rfl
def optR (o : Option (List D)) (k : List D → Rf) (_ : Tg k) : Rf := match o with | some e => k e | none => .no
theorem optR_s {e : List D} {k : List D → Rf} : optR (some e) k () = k e := nrfl rfl
theorem fin_rt {io : List Bool} : fin io (.ok (.rt d) env) = optR (allS (pick io env)) (fun ios => .ok d ios) () := by unfold fin optR; rfl
theorem fin_nx {io : List Bool} : fin io (.ok .nx env) = optR (allS (pick io env)) (fun ios => .ok .non ios) () := by unfold fin optR; rfl
theorem al_n : allS [] = some [] := nrfl rfl
theorem al_c {r : Env} : allS (some d :: r) = (allS r).map (d :: ·) := nrfl rfl
theorem pi_t {α : Type} {ms : List Bool} {v : α} {vs : List α} : pick (true :: ms) (v :: vs) = v :: pick ms vs := nrfl rfl
theorem pi_f {α : Type} {ms : List Bool} {v : α} {vs : List α} : pick (false :: ms) (v :: vs) = pick ms vs := nrfl rfl
theorem pi_n {α : Type} {vs : List α} : pick [] vs = [] := by cases vs <;> rfl
theorem wi_n : wipeE env [] = env := nrfl rfl
theorem wi_c {v : Nat} {vs : List Nat} : wipeE env (v :: vs) = (wipeE env vs).set v none := nrfl rfl
end
theorem at0 {α : Type} {a : α} {l : List α} : atI (a :: l) 0 = some a := atI_nat (j := 0) rfl
theorem at1 {α : Type} {a b : α} {l : List α} : atI (a :: b :: l) 1 = some b := atI_nat (j := 1) rfl
theorem at2 {α : Type} {a b c : α} {l : List α} : atI (a :: b :: c :: l) 2 = some c := atI_nat (j := 2) rfl
theorem at3 {α : Type} {a b c d : α} {l : List α} : atI (a :: b :: c :: d :: l) 3 = some d := atI_nat (j := 3) rfl
theorem ix0 {n : Nat} : ixN (n + 1) 0 = some 0 := by unfold ixN; rw [if_pos (by omega), if_pos (by omega)]; rfl
theorem ix1 {n : Nat} : ixN (n + 2) 1 = some 1 := by unfold ixN; rw [if_pos (by omega), if_pos (by omega)]; rfl
theorem ix2 {n : Nat} : ixN (n + 3) 2 = some 2 := by unfold ixN; rw [if_pos (by omega), if_pos (by omega)]; rfl
theorem set0 {a d : D} {l : List D} : fSet (.lst true (a :: l)) (.int 0) d = some (.lst true (d :: l)) := by
  rw [fSet, List.length_cons, ix0]; rfl
theorem set1 {a b d : D} {l : List D} : fSet (.lst true (a :: b :: l)) (.int 1) d = some (.lst true (a :: d :: l)) := by
  rw [fSet, List.length_cons, List.length_cons, ix1]; rfl
theorem set2 {a b c d : D} {l : List D} : fSet (.lst true (a :: b :: c :: l)) (.int 2) d = some (.lst true (a :: b :: d :: l)) := by
  rw [fSet, List.length_cons, List.length_cons, List.length_cons, ix2]; rfl
theorem pow_60 : fPow (.int 10) (.int 60) = some (.int (10 ^ 60)) := by
  unfold fPow fI2
  simp only
  rw [if_pos (by decide)]; rfl
theorem pow_18 : fPow (.int 10) (.int 18) = some (.int (10 ^ 18)) := by
  unfold fPow fI2
  simp only
  rw [if_pos (by decide)]; rfl
theorem ix_t {ds : List D} {i : Int} : fIx (.tup ds) (.int i) = atI ds i := nrfl rfl
theorem ix_l {ds : List D} {i : Int} {o : Bool} : fIx (.lst o ds) (.int i) = atI ds i := nrfl rfl
theorem ix_s {ds : List D} {i : Int} : fIx (.scr ds) (.int i) = atI ds i := nrfl rfl
theorem mul_i {a b : Int} : fMul (.int a) (.int b) = if mulOk a b then some (.int (a * b)) else none := nrfl rfl
theorem len_t {ds : List D} : fLen [.tup ds] = some (.int ds.length) := nrfl rfl
theorem len_l {ds : List D} {o : Bool} : fLen [.lst o ds] = some (.int ds.length) := nrfl rfl
theorem len_s {ds : List D} : fLen [.scr ds] = some (.int ds.length) := nrfl rfl
theorem sz0 : ([] : List D).length ≤ sizeLine := by
  simp only [List.length_cons, List.length_nil]; decide
theorem sz1 {a : D} : ([a] : List D).length ≤ sizeLine := by
  simp only [List.length_cons, List.length_nil]; decide
theorem sz2 {a b : D} : ([a, b] : List D).length ≤ sizeLine := by
  simp only [List.length_cons, List.length_nil]; decide
theorem sz3 {a b c : D} : ([a, b, c] : List D).length ≤ sizeLine := by
  simp only [List.length_cons, List.length_nil]; decide
theorem sz4 {a b c d : D} : ([a, b, c, d] : List D).length ≤ sizeLine := by
  simp only [List.length_cons, List.length_nil]; decide
theorem sz5 {a b c d e : D} : ([a, b, c, d, e] : List D).length ≤ sizeLine := by
  simp only [List.length_cons, List.length_nil]; decide
theorem sz6 {a b c d e f : D} : ([a, b, c, d, e, f] : List D).length ≤ sizeLine := by
  simp only [List.length_cons, List.length_nil]; decide
theorem sz7 {a b c d e f g : D} : ([a, b, c, d, e, f, g] : List D).length ≤ sizeLine := by
  simp only [List.length_cons, List.length_nil]; decide
theorem sz8 {a b c d e f g h : D} : ([a, b, c, d, e, f, g, h] : List D).length ≤ sizeLine := by
  simp only [List.length_cons, List.length_nil]; decide
theorem isa_isInt_non  : fIsa Kd.isInt .non = some (.bl false) := nrfl rfl
theorem isa_isInt_bl {b : Bool} : fIsa Kd.isInt (.bl b) = some (.bl true) := nrfl rfl
theorem isa_isInt_int {i : Int} : fIsa Kd.isInt (.int i) = some (.bl true) := nrfl rfl
theorem isa_isInt_str {x : Str} : fIsa Kd.isInt (.str x) = some (.bl false) := nrfl rfl
theorem isa_isInt_tup {ds : List D} : fIsa Kd.isInt (.tup ds) = some (.bl false) := nrfl rfl
theorem isa_isInt_lst {o : Bool} {ds : List D} : fIsa Kd.isInt (.lst o ds) = some (.bl false) := nrfl rfl
theorem isa_isInt_scr {ds : List D} : fIsa Kd.isInt (.scr ds) = some (.bl false) := nrfl rfl
theorem isa_isInt_dct {o : Bool} {ds : List (D × D)} : fIsa Kd.isInt (.dct o ds) = some (.bl false) := nrfl rfl
theorem isa_isBool_non  : fIsa Kd.isBool .non = some (.bl false) := nrfl rfl
theorem isa_isBool_bl {b : Bool} : fIsa Kd.isBool (.bl b) = some (.bl true) := nrfl rfl
theorem isa_isBool_int {i : Int} : fIsa Kd.isBool (.int i) = some (.bl false) := nrfl rfl
theorem isa_isBool_str {x : Str} : fIsa Kd.isBool (.str x) = some (.bl false) := nrfl rfl
theorem isa_isBool_tup {ds : List D} : fIsa Kd.isBool (.tup ds) = some (.bl false) := nrfl rfl
theorem isa_isBool_lst {o : Bool} {ds : List D} : fIsa Kd.isBool (.lst o ds) = some (.bl false) := nrfl rfl
theorem isa_isBool_scr {ds : List D} : fIsa Kd.isBool (.scr ds) = some (.bl false) := nrfl rfl
theorem isa_isBool_dct {o : Bool} {ds : List (D × D)} : fIsa Kd.isBool (.dct o ds) = some (.bl false) := nrfl rfl
theorem isa_isStr_non  : fIsa Kd.isStr .non = some (.bl false) := nrfl rfl
theorem isa_isStr_bl {b : Bool} : fIsa Kd.isStr (.bl b) = some (.bl false) := nrfl rfl
theorem isa_isStr_int {i : Int} : fIsa Kd.isStr (.int i) = some (.bl false) := nrfl rfl
theorem isa_isStr_str {x : Str} : fIsa Kd.isStr (.str x) = some (.bl true) := nrfl rfl
theorem isa_isStr_tup {ds : List D} : fIsa Kd.isStr (.tup ds) = some (.bl false) := nrfl rfl
theorem isa_isStr_lst {o : Bool} {ds : List D} : fIsa Kd.isStr (.lst o ds) = some (.bl false) := nrfl rfl
theorem isa_isStr_scr {ds : List D} : fIsa Kd.isStr (.scr ds) = some (.bl false) := nrfl rfl
theorem isa_isStr_dct {o : Bool} {ds : List (D × D)} : fIsa Kd.isStr (.dct o ds) = some (.bl false) := nrfl rfl
theorem isa_isTuple_non  : fIsa Kd.isTuple .non = some (.bl false) := nrfl rfl
theorem isa_isTuple_bl {b : Bool} : fIsa Kd.isTuple (.bl b) = some (.bl false) := nrfl rfl
theorem isa_isTuple_int {i : Int} : fIsa Kd.isTuple (.int i) = some (.bl false) := nrfl rfl
theorem isa_isTuple_str {x : Str} : fIsa Kd.isTuple (.str x) = some (.bl false) := nrfl rfl
theorem isa_isTuple_tup {ds : List D} : fIsa Kd.isTuple (.tup ds) = some (.bl true) := nrfl rfl
theorem isa_isTuple_lst {o : Bool} {ds : List D} : fIsa Kd.isTuple (.lst o ds) = some (.bl false) := nrfl rfl
theorem isa_isTuple_scr {ds : List D} : fIsa Kd.isTuple (.scr ds) = some (.bl false) := nrfl rfl
theorem isa_isTuple_dct {o : Bool} {ds : List (D × D)} : fIsa Kd.isTuple (.dct o ds) = some (.bl false) := nrfl rfl
theorem isa_isList_non  : fIsa Kd.isList .non = some (.bl false) := nrfl rfl
theorem isa_isList_bl {b : Bool} : fIsa Kd.isList (.bl b) = some (.bl false) := nrfl rfl
theorem isa_isList_int {i : Int} : fIsa Kd.isList (.int i) = some (.bl false) := nrfl rfl
theorem isa_isList_str {x : Str} : fIsa Kd.isList (.str x) = some (.bl false) := nrfl rfl
theorem isa_isList_tup {ds : List D} : fIsa Kd.isList (.tup ds) = some (.bl false) := nrfl rfl
theorem isa_isList_lst {o : Bool} {ds : List D} : fIsa Kd.isList (.lst o ds) = some (.bl true) := nrfl rfl
theorem isa_isList_scr {ds : List D} : fIsa Kd.isList (.scr ds) = some (.bl true) := nrfl rfl
theorem isa_isList_dct {o : Bool} {ds : List (D × D)} : fIsa Kd.isList (.dct o ds) = some (.bl false) := nrfl rfl
theorem isa_isDict_non  : fIsa Kd.isDict .non = some (.bl false) := nrfl rfl
theorem isa_isDict_bl {b : Bool} : fIsa Kd.isDict (.bl b) = some (.bl false) := nrfl rfl
theorem isa_isDict_int {i : Int} : fIsa Kd.isDict (.int i) = some (.bl false) := nrfl rfl
theorem isa_isDict_str {x : Str} : fIsa Kd.isDict (.str x) = some (.bl false) := nrfl rfl
theorem isa_isDict_tup {ds : List D} : fIsa Kd.isDict (.tup ds) = some (.bl false) := nrfl rfl
theorem isa_isDict_lst {o : Bool} {ds : List D} : fIsa Kd.isDict (.lst o ds) = some (.bl false) := nrfl rfl
theorem isa_isDict_scr {ds : List D} : fIsa Kd.isDict (.scr ds) = some (.bl false) := nrfl rfl
theorem isa_isDict_dct {o : Bool} {ds : List (D × D)} : fIsa Kd.isDict (.dct o ds) = some (.bl true) := nrfl rfl
theorem eq_i {a b : Int} : fEq2 (.int a) (.int b) = some (.bl (decide (a = b))) := nrfl rfl
theorem ne_i {a b : Int} : fNe2 (.int a) (.int b) = some (.bl (!decide (a = b))) := nrfl rfl
theorem eq_s {a b : Str} : fEq2 (.str a) (.str b) = some (.bl (decide (a = b))) := nrfl rfl
theorem ne_s {a b : Str} : fNe2 (.str a) (.str b) = some (.bl (!decide (a = b))) := nrfl rfl
theorem sl_l {o : Bool} {ds : List D} {a b : Option Int} : fSl (.lst o ds) a b = if fznL ds then some (.lst true (cutA ds a b)) else none := nrfl rfl
theorem sl_t {ds : List D} {a b : Option Int} : fSl (.tup ds) a b = some (.tup (cutA ds a b)) := nrfl rfl
theorem fz_l {o : Bool} {ds : List D} : fz (.lst o ds) = .lst false (fzL ds) := by rw [fz]
theorem fz_t {ds : List D} : fz (.tup ds) = .tup (fzL ds) := by rw [fz]
theorem fz_d {o : Bool} {ds : List (D × D)} : fz (.dct o ds) = .dct false (fzK ds) := by rw [fz]
theorem fz_i {o : Bool} {c : String} {ds : List (String × D)} : fz (.ins o c ds) = .ins false c (fzF ds) := by rw [fz]
theorem seq_t {ds : List D} : seqD (.tup ds) = some ds := nrfl rfl
theorem seq_l {o : Bool} {ds : List D} : seqD (.lst o ds) = some ds := nrfl rfl
theorem zip_l {a b : List D} : zipD [.lst false a, .lst false b] = some (List.zipWith (fun x y => .tup [x, y]) a b) := nrfl rfl
theorem zip_t {a b : List D} : zipD [.tup a, .tup b] = some (List.zipWith (fun x y => .tup [x, y]) a b) := nrfl rfl
theorem enum_l {a : List D} : enumD [.lst false a] = some ((List.range a.length).zipWith (fun (i : Nat) x => .tup [.int (i : Int), x]) a) := nrfl rfl
theorem rng1_i {j : Int} (h0 : -(2 ^ 62) ≤ j) (h1 : j < 2 ^ 62) : rng1 [.int j] = some ((List.range j.toNat).map fun k : Nat => .int (k : Int)) := if_pos ⟨h0, h1⟩
theorem rng1_n {j : Nat} (h1 : j < 2 ^ 62) : rng1 [.int (j : Int)] = some ((List.range j).map fun k : Nat => .int (k : Int)) := by
  rw [rng1_i (by omega) (by omega)]; rfl
theorem tuple_l {o : Bool} {ds : List D} : fTuple [.lst o ds] = if fznL ds then some (.tup ds) else none := nrfl rfl
theorem tuple_t {ds : List D} : fTuple [.tup ds] = some (.tup ds) := nrfl rfl
theorem list_l {o : Bool} {ds : List D} : fList [.lst o ds] = if fznL ds then some (.lst true ds) else none := nrfl rfl
theorem list_t {ds : List D} : fList [.tup ds] = if fznL ds then some (.lst true ds) else none := nrfl rfl
theorem pk_all : ∀ {io : List Bool} {e : Env}, (io.all fun b => !b) = true → allS (pick io e) = some []
  | [], e, _ => by cases e <;> rfl
  | true :: io, e, h => by simp at h
  | false :: io, [], h => rfl
  | false :: io, a :: e, h => by
    rw [pick]
    exact pk_all (by simpa using h)
theorem pk1 {e : Env} : allS (pick [false] e) = some [] := pk_all rfl
theorem pk2 {e : Env} : allS (pick [false, false] e) = some [] := pk_all rfl
theorem pk3 {e : Env} : allS (pick [false, false, false] e) = some [] := pk_all rfl
theorem pk4 {e : Env} : allS (pick [false, false, false, false] e) = some [] := pk_all rfl
theorem fzL_n : fzL [] = [] := by rw [fzL]
theorem fzL_c {d : D} {ds : List D} : fzL (d :: ds) = fz d :: fzL ds := by rw [fzL]
theorem fz_int {i : Int} : fz (.int i) = .int i := by rw [fz]
theorem fz_bl {i : Bool} : fz (.bl i) = .bl i := by rw [fz]
theorem fz_str {i : Str} : fz (.str i) = .str i := by rw [fz]
theorem fz_non : fz .non = .non := by rw [fz]
theorem seq_nx {s r : MS} {env e : Env} {x : R Fl} (h : s env = .ok .nx e) (h2 : r e = x) : sSeq s r env = x := by
  rw [v_seq, h, b_bo, Fl.k_nx, h2]
theorem fin_seq {io : List Bool} {s r : MS} {env e : Env} {x : Rf} (h : s env = .ok .nx e) (h2 : fin io (r e) = x) : fin io (sSeq s r env) = x := by
  rw [seq_nx h rfl, h2]
theorem add_i {a b : Int} : fAdd (.int a) (.int b) = some (.int (a + b)) := nrfl rfl
theorem sub_i {a b : Int} : fSub (.int a) (.int b) = some (.int (a - b)) := nrfl rfl
theorem mod_i {a b : Int} : fMod (.int a) (.int b) = if 0 < b then some (.int (a % b)) else none := nrfl rfl
theorem div_i {a b : Int} : fDiv (.int a) (.int b) = if 0 < b ∧ b.natAbs.log2 < 9000 then some (.int (a / b)) else none := nrfl rfl
theorem lt_i {a b : Int} : fLt (.int a) (.int b) = some (.bl (decide (a < b))) := nrfl rfl
theorem le_i {a b : Int} : fLe (.int a) (.int b) = some (.bl (decide (a ≤ b))) := nrfl rfl
theorem gt_i {a b : Int} : fGt (.int a) (.int b) = some (.bl (decide (b < a))) := nrfl rfl
theorem ge_i {a b : Int} : fGe (.int a) (.int b) = some (.bl (decide (b ≤ a))) := nrfl rfl
theorem abs_i {a : Int} : fAbs [.int a] = some (.int (if a < 0 then -a else a)) := nrfl rfl
theorem int_i {a : Int} : fInt [.int a] = some (.int a) := nrfl rfl
theorem int_b {a : Bool} : fInt [.bl a] = some (.int (if a then 1 else 0)) := nrfl rfl
theorem neg_i {a : Int} : fNeg (.int a) = some (.int (-a)) := nrfl rfl
theorem fzn_1 : fzn .non = true := nrfl rfl
theorem fzn_2 {b : Bool} : fzn (.bl b) = true := nrfl rfl
theorem fzn_3 {b : Int} : fzn (.int b) = true := nrfl rfl
theorem fzn_4 {b : Str} : fzn (.str b) = true := nrfl rfl
theorem fzn_5 {ds : List D} : fzn (.tup ds) = fznL ds := by rw [fzn]
theorem fzn_6 {o : Bool} {ds : List D} : fzn (.lst o ds) = (!o && fznL ds) := by rw [fzn]
theorem fzn_7 {o : Bool} {ds : List (D × D)} : fzn (.dct o ds) = (!o && fznK ds) := by rw [fzn]
theorem fzn_8 {o : Bool} {c : String} {ds : List (String × D)} : fzn (.ins o c ds) = (!o && fznF ds) := by rw [fzn]
theorem fzn_9 {ds : List D} : fzn (.set ds) = true := by rw [fzn]
theorem fzn_s {ds : List D} : fzn (.scr ds) = fznL ds := by rw [fzn]
theorem fznL_n : fznL [] = true := nrfl rfl
theorem fznL_c {d : D} {ds : List D} : fznL (d :: ds) = (fzn d && fznL ds) := by rw [fznL]
theorem fznK_n : fznK [] = true := nrfl rfl
theorem fznK_c {k d : D} {ds : List (D × D)} : fznK ((k, d) :: ds) = (fzn d && fznK ds) := by rw [fznK]
theorem fznF_n : fznF [] = true := nrfl rfl
theorem fznF_c {k : String} {d : D} {ds : List (String × D)} : fznF ((k, d) :: ds) = (fzn d && fznF ds) := by rw [fznF]
theorem is_n : fIs .non .non = some (.bl true) := rfl
theorem nis_n : fNis .non .non = some (.bl false) := rfl
theorem is_i {i : Int} : fIs (.int i) .non = some (.bl false) := rfl
theorem nis_i {i : Int} : fNis (.int i) .non = some (.bl true) := rfl
theorem is_t {i : List D} : fIs (.tup i) .non = some (.bl false) := rfl
theorem nis_t {i : List D} : fNis (.tup i) .non = some (.bl true) := rfl
theorem putD_n {f : String} {d : D} : putD f d [] = [(f, d)] := by rw [putD]
theorem putD_c {f g : String} {d x : D} {r : List (String × D)} : putD f d ((g, x) :: r) = if g = f then (g, d) :: r else (g, x) :: putD f d r := by rw [putD]
end Mi
set_option maxHeartbeats 4000000
namespace Mi
open PySem PySem.Spec PyProof.Rows L2 RZ Ov PpSet
/-! ### loops -/
theorem for_inv {g : MG} {m : MS} : ∀ (ds : List D) (Iv : Nat → Env → Prop), (∀ i d env, ds[i]? = some d → Iv i env → ∃ e e', g d env = some e ∧ (m e = .ok .nx e' ∨ m e = .ok .ct e') ∧ Iv (i + 1) e') →
    ∀ {env : Env}, Iv 0 env → ∃ e', forL g m ds env = .ok .nx e' ∧ Iv ds.length e'
  | [], Iv, _, env, h0 => ⟨env, rfl, h0⟩
  | d :: ds, Iv, h, env, h0 => by
    obtain ⟨e, e', h1, h2, h3⟩ := h 0 d env rfl h0
    obtain ⟨e2, k1, k2⟩ := for_inv ds (fun i => Iv (i + 1)) (fun i d env hd hi => h (i + 1) d env hd hi) h3
    refine ⟨e2, ?_, k2⟩
    rw [forL, h1]
    rcases h2 with h2 | h2
    · simp only [h2, v_bo, k1]
    · simp only [h2, v_bo, k1]
/-- one that changes what is around: Iv by the items so far -/
theorem lc_inv {g : MG} {c : MB} {m : ME} {ws : List Nat} : ∀ (ds : List D) (Iv : Nat → List D → Env → Prop), (∀ i d acc env, ds[i]? = some d → Iv i acc env → ∃ e e1 e2 y, g d env = some e ∧ c e = .ok true e1 ∧ m e1 = .ok y e2 ∧ Iv (i + 1) (acc ++ [y]) (wipeE e2 ws)) →
    ∀ {acc : List D} {env : Env}, acc.length + ds.length ≤ sizeLine → Iv 0 acc env → ∃ r e', lcF g c m ws ds acc env = .ok r e' ∧ Iv ds.length r e'
  | [], Iv, _, acc, env, _, h0 => ⟨acc, env, rfl, h0⟩
  | d :: ds, Iv, h, acc, env, hl, h0 => by
    obtain ⟨e, e1, e2, y, h1, h2, h3, h4⟩ := h 0 d acc env rfl h0
    obtain ⟨r, e', k1, k2⟩ := lc_inv ds (fun i => Iv (i + 1)) (fun i d acc env hd hi => h (i + 1) d acc env hd hi) (acc := acc ++ [y]) (by simp at hl ⊢; omega) h4
    refine ⟨r, e', ?_, k2⟩
    rw [lcF, h1]
    simp only [h2, v_b0, if_true, h3]
    rw [if_pos (by simp at hl; omega), k1]
/-! while -/
theorem while_more {c : MB} {m : MS} : ∀ {n k : Nat} {env : Env}, n ≤ k → whileF c m n env ≠ .no → whileF c m k env = whileF c m n env
  | 0, k, env, _, h => absurd rfl h
  | n + 1, 0, env, hk, h => by omega
  | n + 1, k + 1, env, hk, h => by
    rw [whileF] at h
    rw [whileF, whileF]
    cases hc : c env with
    | no => rfl
    | ex => rfl
    | ok b e =>
      rw [hc] at h
      simp only [v_bo] at h ⊢
      cases b with
      | false => rfl
      | true =>
        simp only [if_true] at h ⊢
        cases hm : m e with
        | no => rfl
        | ex => rfl
        | ok fl e2 =>
          rw [hm] at h
          simp only [v_bo] at h ⊢
          cases fl with
          | nx => exact while_more (by omega) h
          | ct => exact while_more (by omega) h
          | bk => rfl
          | rt d => rfl
theorem while_eq {c : MB} {m : MS} {env : Env} {r : R Fl} {n : Nat} (h : whileF c m n env = r) (hr : r ≠ .no) : sWhile c m env = r := by
  have ex : ∃ n, whileF c m n env ≠ .no := ⟨n, by rw [h]; exact hr⟩
  unfold sWhile
  rw [dif_pos ex]
  have h1 := ex.choose_spec
  rcases Nat.le_total n ex.choose with q | q
  · rw [while_more q (by rw [h]; exact hr), h]
  · rw [← while_more q h1, h]
theorem while_stop {c : MB} {m : MS} {env e : Env} (h : c env = .ok false e) : sWhile c m env = .ok .nx e := by
  refine while_eq (n := 1) ?_ (by simp)
  rw [whileF, h]
  rfl
theorem while_step {c : MB} {m : MS} {env e e' : Env} (h : c env = .ok true e) (h2 : m e = .ok .nx e' ∨ m e = .ok .ct e') (h3 : sWhile c m e' ≠ .no) : sWhile c m env = sWhile c m e' := by
  unfold sWhile at h3
  by_cases ex : ∃ n, whileF c m n e' ≠ .no
  · obtain ⟨n, hn⟩ := ex
    rw [while_eq (env := e') (n := n) rfl hn]
    refine while_eq (n := n + 1) ?_ hn
    rw [whileF, h]
    rcases h2 with h2 | h2
    · simp only [v_bo, if_true, h2]
    · simp only [v_bo, if_true, h2]
  · rw [dif_neg ex] at h3
    exact absurd rfl h3
/-- by an invariant and a number that falls -/
theorem while_inv {c : MB} {m : MS} (Iv Post : Env → Prop) (mu : Env → Nat) (h : ∀ env, Iv env → (∃ e e', c env = .ok true e ∧ (m e = .ok .nx e' ∨ m e = .ok .ct e') ∧ Iv e' ∧ mu e' < mu env) ∨ ∃ e, c env = .ok false e ∧ Post e) :
    ∀ {env : Env}, Iv env → ∃ e, sWhile c m env = .ok .nx e ∧ Post e := by
  have key : ∀ (k : Nat) (env : Env), mu env ≤ k → Iv env → ∃ e, sWhile c m env = .ok .nx e ∧ Post e := by
    intro k
    induction k with
    | zero =>
      intro env hk hi
      rcases h env hi with ⟨e, e', _, _, _, h4⟩ | ⟨e, h1, h2⟩
      · omega
      · exact ⟨e, while_stop h1, h2⟩
    | succ k ih =>
      intro env hk hi
      rcases h env hi with ⟨e, e', h1, h2, h3, h4⟩ | ⟨e, h1, h2⟩
      · obtain ⟨e2, k1, k2⟩ := ih e' (by omega) h3
        exact ⟨e2, by rw [while_step h1 h2 (by rw [k1]; simp), k1], k2⟩
      · exact ⟨e, while_stop h1, h2⟩
  intro env hi
  exact key _ env (Nat.le_refl _) hi
/-! ### numbers -/
theorem log2_lt {a k : Nat} (h : a < 2 ^ k) (hk : 0 < k) : a.log2 < k := by
  by_cases z : a = 0
  · subst z; simpa using hk
  · exact (Nat.log2_lt z).mpr h
theorem mulOk_of {a b : Int} (ha : a.natAbs < 2 ^ 5000) (hb : b.natAbs < 2 ^ 5000) : mulOk a b = true := by
  unfold mulOk
  refine decide_eq_true ?_
  have h1 := log2_lt ha (by decide)
  have h2 := log2_lt hb (by decide)
  omega
theorem abs_lt {a : Int} {k : Nat} (h0 : 0 ≤ a) (h : a < 2 ^ k) : a.natAbs < 2 ^ k := by
  have e : ((a.natAbs : Nat) : Int) = a := by omega
  have : ((a.natAbs : Nat) : Int) < ((2 ^ k : Nat) : Int) := by rw [e]; simpa using h
  exact Int.ofNat_lt.mp this
theorem pow_le {a j k : Nat} (h : a < 2 ^ j) (hk : j ≤ k) : a < 2 ^ k := Nat.lt_of_lt_of_le h (Nat.pow_le_pow_right (by decide) hk)
end Mi
set_option maxHeartbeats 4000000
set_option exponentiation.threshold 100000
namespace Mi
open PySem PySem.Spec PyProof.Rows L2 RZ Ov PpSet
local macro_rules | `(tactic| walk_at "ev") => `(tactic| simp -dsimp only [*, b_bo, b_b0, v_bo, v_b0, v_c, v_v, v_mv, v_vk, v_k, v_fk, v_nil, v_cons, v_1, v_2, v_L, v_bB, asB_b, v_bAnd, v_bOr, v_bNot, v_bYes, v_if, v_and, v_or, v_not, v_tup, v_lst, v_fld, asI_i, v_oN, v_oS, optI_i, v_sl, v_rg1, v_rg2, v_lrg, v_trg, chainK_b, v_chain,
  Fl.k_nx, Fl.k_rt, Fl.k_bk, Fl.k_ct, v_seq, v_pass, v_bk, v_ct, v_ret, v_retN, v_expr, v_sif, v_asg, optE_s, v_gN, v_gT, v_gsN, v_gsC, Option.bind_some, v_par, v_par3, v_aug, v_put, v_sfld, v_for, optL_s, v_iSeq, v_iOf, v_iStr, v_lc, v_mList, Rf.back_ok, optP_s, v_callF, v_call, v_aN, v_aE, v_aI, v_fN, v_fE, v_fI, optD_s, Option.map_some,
  v_kN, v_kE, v_kI, v_methE, v_methI, Rf.newB_ok, v_new, fin_rt, fin_nx, getR_s, liftK_s, R.ite_t, R.ite_f, List.getElem?_cons_zero, List.getElem?_cons_succ, List.set_cons_zero, List.set_cons_succ, List.map_cons, List.map_nil, List.cons_append, List.nil_append, List.replicate_succ, List.replicate_zero, k2_s, k3_s, insK_s, strK_s, mlK_s, optF_s, joinO_s, v_gp, v_gq, fldO_s, v_gf, setO_s, v_gs, optR_s, al_n, al_c, pi_t, pi_f, pi_n, wi_n, wi_c,
  add_i, sub_i, mod_i, div_i, pow_60, pow_18, lt_i, le_i, gt_i, ge_i, mul_i, is_n, nis_n, is_i, nis_i, is_t, nis_t, ix_t, ix_l, ix_s, set0, set1, set2, len_t, len_l, len_s, abs_i, int_i, int_b, sl_l, sl_t, fz_l, fz_t, fz_d, fz_i, seq_t, seq_l, zip_l, zip_t, enum_l, tuple_l, tuple_t, list_l, list_t, neg_i, isa_isInt_non, isa_isInt_bl, isa_isInt_int, isa_isInt_str, isa_isInt_tup, isa_isInt_lst, isa_isInt_scr, isa_isInt_dct, isa_isBool_non, isa_isBool_bl, isa_isBool_int, isa_isBool_str, isa_isBool_tup, isa_isBool_lst, isa_isBool_scr, isa_isBool_dct, isa_isStr_non, isa_isStr_bl, isa_isStr_int, isa_isStr_str, isa_isStr_tup, isa_isStr_lst, isa_isStr_scr, isa_isStr_dct, isa_isTuple_non, isa_isTuple_bl, isa_isTuple_int, isa_isTuple_str, isa_isTuple_tup, isa_isTuple_lst, isa_isTuple_scr, isa_isTuple_dct, isa_isList_non, isa_isList_bl, isa_isList_int, isa_isList_str, isa_isList_tup, isa_isList_lst, isa_isList_scr, isa_isList_dct, isa_isDict_non, isa_isDict_bl, isa_isDict_int, isa_isDict_str, isa_isDict_tup, isa_isDict_lst, isa_isDict_scr, isa_isDict_dct, eq_i, ne_i, eq_s, ne_s, fzn_1, fzn_2, fzn_3, fzn_4, fzn_5, fzn_6, fzn_7, fzn_8, fzn_9, fzn_s, fznL_n, fznL_c, fznK_n, fznK_c, fznF_n, fznF_c, sz0, sz1, sz2, sz3, sz4, sz5, sz6, sz7, sz8, pk1, pk2, pk3, pk4, fzL_n, fzL_c, fz_int, fz_bl, fz_str, fz_non, putD_n, putD_c, at0, at1, at2, at3, ix0, ix1, ix2, Bool.not_true, Bool.not_false, Bool.true_and, Bool.and_true, Bool.false_and, Bool.and_false, Bool.or_true, Bool.true_or, Bool.false_or, Bool.or_false, if_true, if_false, Bool.false_eq_true, decide_true, decide_false, and_self, and_true, true_and, not_true_eq_false, not_false_eq_true, ne_eq, false_and, and_false, eq_self])
local macro_rules | `(tactic| walk_at "env") => `(tactic| simp only [List.map_cons, List.map_nil, List.cons_append, List.nil_append, List.replicate_succ, List.replicate_zero])
section
/-! ### the box -/
def Bx (N : Nat) (d : D) : Prop := ∃ (o s n : Int), d = .lst true [.int o, .int s, .int n] ∧ 0 ≤ o ∧ o < 10 ^ 240 ∧ 0 ≤ s ∧ s < 2305843009213693951 ∧ 0 ≤ n ∧ n ≤ (N : Int)
theorem Bx.mono {N M : Nat} {d : D} (h : Bx N d) (hN : N ≤ M) : Bx M d := by
  obtain ⟨o, s, n, h0, h1, h2, h3, h4, h5, h6⟩ := h
  exact ⟨o, s, n, h0, h1, h2, h3, h4, h5, by omega⟩
theorem emod_b {a m : Int} (h : 0 < m) : 0 ≤ a % m ∧ a % m < m := ⟨Int.emod_nonneg _ (by omega), Int.emod_lt_of_pos _ h⟩
theorem small_abs {a : Int} (h0 : 0 ≤ a) (h : a < 2 ^ 1000) : a.natAbs < 2 ^ 5000 := pow_le (abs_lt h0 h) (by decide)
theorem mulOk_s {a b : Int} (h0 : 0 ≤ a) (h : a < 2 ^ 1000) (h1 : 0 ≤ b) (h2 : b < 2 ^ 1000) : mulOk a b = true := mulOk_of (small_abs h0 h) (small_abs h1 h2)
theorem lt_k {a : Int} {k : Int} (h : a < k) (hk : k ≤ 2 ^ 1000 := by decide +kernel) : a < 2 ^ 1000 := Int.lt_of_lt_of_le h hk
theorem mul_lt' {a b x y : Int} (h0 : 0 ≤ a) (h1 : a < x) (h2 : 0 ≤ b) (h3 : b < y) : 0 ≤ a * b ∧ a * b < x * y := by
  refine ⟨Int.mul_nonneg h0 h2, ?_⟩
  have h4 : a * b ≤ a * y := Int.mul_le_mul_of_nonneg_left (by omega) h0
  have h5 : a * y < x * y := Int.mul_lt_mul_of_pos_right h1 (by omega)
  omega
theorem take_spec {N : Nat} {b : D} {m : Int} (hb : Bx N b) (hN : N ≤ 2 ^ 60) (h0 : 0 < m) (h1 : m ≤ 10 ^ 40) : ∃ r b', m_l_take [b, .int m] = .ok (.int r) [b'] ∧ 0 ≤ r ∧ r < m ∧ Bx (N + 1) b' := by
  obtain ⟨o, s, n, rfl, q1, q2, q3, q4, q5, q6⟩ := hb
  have l40 : m < 2 ^ 1000 := Int.lt_of_le_of_lt h1 (by decide +kernel)
  have lm : m.natAbs.log2 < 9000 := by
    have := log2_lt (abs_lt (by omega) l40) (by decide)
    omega
  by_cases ho : 0 < o
  · refine ⟨o % m, .lst true [.int (o / m), .int s, .int n], ?_, (emod_b h0).1, (emod_b h0).2, _, _, _, rfl, Int.ediv_nonneg q1 (by omega), ?_, q3, q4, q5, by omega⟩
    · unfold m_l_take b_l_take
      rw [v_fn]
      walk_at "ev"
    · have := Int.ediv_le_self m q1
      omega
  · have n1 : n + 1 < 2 ^ 62 := by omega
    have e1 : mulOk 65537 (n + 1) = true := mulOk_s (by omega) (by decide +kernel) (by omega) (lt_k n1)
    obtain ⟨c1, c2⟩ := mul_lt' (a := 65537) (x := 65538) (b := n + 1) (by omega) (by omega) (by omega) n1
    have e2 : mulOk (65537 * (n + 1)) (n + 1) = true := mulOk_s c1 (lt_k c2) (by omega) (lt_k n1)
    obtain ⟨c3, c4⟩ := mul_lt' (a := 65537 * (n + 1)) (b := n + 1) c1 c2 (by omega) n1
    have e3 : mulOk (s + 65537 * (n + 1) * (n + 1) + 11) 48271 = true := mulOk_s (by omega) (lt_k (k := 2 ^ 200) (by omega)) (by omega) (by decide +kernel)
    generalize hx : (s + 65537 * (n + 1) * (n + 1) + 11) * 48271 % 2305843009213693921 = x
    obtain ⟨x1, x2⟩ := emod_b (a := (s + 65537 * (n + 1) * (n + 1) + 11) * 48271) (m := 2305843009213693921) (by omega)
    rw [hx] at x1 x2
    have e4 : mulOk 99991 (n + 1) = true := mulOk_s (by omega) (by decide +kernel) (by omega) (lt_k n1)
    obtain ⟨y1, y2⟩ := emod_b (a := x) (m := 1000003) (by omega)
    have e5 : mulOk x (x % 1000003 + 99991 * (n + 1)) = true := mulOk_s x1 (lt_k x2) (by omega) (lt_k (k := 2 ^ 100) (by omega))
    generalize hy : x * (x % 1000003 + 99991 * (n + 1)) % 2305843009213693907 = y
    refine ⟨(y / 97 + y / 1000033) % m, .lst true [.int o, .int s, .int (n + 1)], ?_, (emod_b h0).1, (emod_b h0).2, _, _, _, rfl, q1, q2, q3, q4, by omega, by omega⟩
    have k1 : (0 : Int) < 2305843009213693921 := by decide
    have k2 : (0 : Int) < 2305843009213693907 := by decide
    have k3 : (0 : Int) < 1000003 := by decide
    have k4 : (0 : Int) < 97 := by decide
    have k5 : (0 : Int) < 1000033 := by decide
    have k6 : (97 : Int).natAbs.log2 < 9000 := by decide +kernel
    have k7 : (1000033 : Int).natAbs.log2 < 9000 := by decide +kernel
    clear hN q1 q2 q3 q4 q5 q6 h1 c1 c2 c3 c4 x1 x2 y1 y2 n1
    unfold m_l_take b_l_take
    rw [v_fn]
    walk_at "ev"
theorem at_mem {α : Type} {xs : List α} {i : Int} (h0 : 0 ≤ i) (h : i < xs.length) : ∃ x ∈ xs, atI xs i = some x := by
  obtain ⟨j, rfl⟩ := Int.eq_ofNat_of_zero_le h0
  have hj : j < xs.length := by omega
  exact ⟨xs[j], List.getElem_mem hj, atI_nat (List.getElem?_eq_getElem hj)⟩
theorem fznL_mem {ds : List D} (h : fznL ds = true) : ∀ d ∈ ds, fzn d = true := by
  induction ds with
  | nil => intro d hd; cases hd
  | cons a r ih =>
    rw [fznL, Bool.and_eq_true] at h
    intro d hd
    rcases List.mem_cons.mp hd with rfl | hd
    · exact h.1
    · exact ih h.2 d hd
theorem fznL_of {ds : List D} (h : ∀ d ∈ ds, fzn d = true) : fznL ds = true := by
  induction ds with
  | nil => rfl
  | cons a r ih =>
    rw [fznL, h a (List.mem_cons_self ..), ih fun d hd => h d (List.mem_cons_of_mem _ hd)]
    rfl
theorem fznL_map {α : Type} {f : α → D} {l : List α} (h : ∀ a ∈ l, fzn (f a) = true) : fznL (l.map f) = true := fznL_of fun d hd => by
  obtain ⟨a, ha, rfl⟩ := List.mem_map.mp hd
  exact h a ha
theorem box_spec {ns : List Int} {k : Nat} (hk : k < 1000) : ∃ b, m_l_box [.scr (ns.map .int), .int k] = .ok b [] ∧ Bx 0 b := by
  obtain ⟨c, hc⟩ : ∃ c : Int, (eIf (bB (e2 fLt (eV 1) (eL fLen (lCons (eV 0) lNil)))) (eK (e2 fIx (eV 0) (eV 1))) (eC (.int 0))) [some (.scr (ns.map .int)), some (.int k), none, none] = .ok (.int c) [some (.scr (ns.map .int)), some (.int k), none, none] := by
    by_cases h : (k : Int) < ((ns.map D.int).length : Int)
    · obtain ⟨x, hx, h2⟩ := at_mem (xs := ns.map D.int) (by omega) h
      obtain ⟨c, _, rfl⟩ := List.mem_map.mp hx
      exact ⟨c, by walk_at "ev"⟩
    · exact ⟨0, by walk_at "ev"⟩
  have e1 : mulOk (10 ^ 60) (10 ^ 60) = true := by decide +kernel
  have e2 : mulOk (10 ^ 60 * 10 ^ 60) (10 ^ 60) = true := by decide +kernel
  have e3 : mulOk (10 ^ 60 * 10 ^ 60 * 10 ^ 60) (10 ^ 60) = true := by decide +kernel
  have hp : (0 : Int) < 10 ^ 60 * 10 ^ 60 * 10 ^ 60 * 10 ^ 60 := by decide +kernel
  generalize ha : (if c < 0 then -c else c) = a
  obtain ⟨a1, a2⟩ := emod_b (a := a) hp
  obtain ⟨i, hi, i1, i2⟩ : ∃ i : Int, (if decide ((10 : Int) ^ 18 ≤ a) = true then (1 : Int) else 0) = i ∧ 0 ≤ i ∧ i ≤ 1 := by
    by_cases h : (10 : Int) ^ 18 ≤ a
    · exact ⟨1, by simp only [h, decide_true, if_true], by omega, by omega⟩
    · exact ⟨0, by simp only [h, decide_false, Bool.false_eq_true, if_false], by omega, by omega⟩
  have e4 : mulOk (a % (10 ^ 60 * 10 ^ 60 * 10 ^ 60 * 10 ^ 60)) i = true := mulOk_s a1 (lt_k a2) i1 (lt_k (k := 2) (by omega))
  have e5 : mulOk 7919 (k : Int) = true := mulOk_s (by omega) (by decide +kernel) (by omega) (lt_k (k := 1000) (by omega))
  obtain ⟨c1, c2⟩ := mul_lt' (a := 7919) (x := 8000) (b := (k : Int)) (y := 1000) (by omega) (by omega) (by omega) (by omega)
  have e6 : mulOk (7919 * (k : Int)) (k : Int) = true := mulOk_s c1 (lt_k c2) (by omega) (lt_k (k := 1000) (by omega))
  obtain ⟨c3, c4⟩ := mul_lt' c1 c2 (b := (k : Int)) (y := 1000) (by omega) (by omega)
  obtain ⟨d1, d2⟩ := emod_b (a := c) (m := 2305843009213693951) (by omega)
  have e7 : mulOk (c % 2305843009213693951 + 7919 * (k : Int) * (k : Int) + 43) 48271 = true := mulOk_s (by omega) (lt_k (k := 2 ^ 200) (by omega)) (by omega) (by decide +kernel)
  obtain ⟨f1, f2⟩ := emod_b (a := (c % 2305843009213693951 + 7919 * (k : Int) * (k : Int) + 43) * 48271) (m := 2305843009213693921) (by omega)
  refine ⟨.lst true [.int (a % (10 ^ 60 * 10 ^ 60 * 10 ^ 60 * 10 ^ 60) * i), .int ((c % 2305843009213693951 + 7919 * (k : Int) * (k : Int) + 43) * 48271 % 2305843009213693921), .int 0], ?_, _, _, _, rfl, ?_, ?_, f1, by omega, by omega, by omega⟩
  · have k1 : (0 : Int) < 2305843009213693951 := by decide
    have k2 : (0 : Int) < 2305843009213693921 := by decide
    have k3 : (3 : Nat) ≤ sizeLine := by decide
    clear a1 a2 i1 i2 c1 c2 c3 c4 d1 d2 f1 f2
    unfold m_l_box b_l_box
    rw [v_fn]
    simp only [List.map_cons, List.map_nil, List.cons_append, List.nil_append, List.replicate_succ, List.replicate_zero]
    rw [v_seq, v_asg, hc]
    clear hc
    walk_at "ev"
  · rcases (by omega : i = 0 ∨ i = 1) with rfl | rfl
    · rw [Int.mul_zero]; exact Int.le_refl _
    · rw [Int.mul_one]; exact a1
  · have hq : (10 : Int) ^ 60 * 10 ^ 60 * 10 ^ 60 * 10 ^ 60 = 10 ^ 240 := by decide +kernel
    rw [hq] at a2 ⊢
    rcases (by omega : i = 0 ∨ i = 1) with rfl | rfl
    · rw [Int.mul_zero]; decide +kernel
    · rw [Int.mul_one]; exact a2
theorem of_spec {N : Nat} {b d : D} {xs : List D} (hb : Bx N b) (hN : N ≤ 2 ^ 60) (hd : d = .lst false xs ∨ d = .tup xs) (h0 : xs ≠ []) (h1 : xs.length ≤ 2 ^ 30) (hz : fznL xs = true) : ∃ r b', m_l_of [b, d] = .ok r [b'] ∧ r ∈ xs ∧ Bx (N + 1) b' := by
  have hl : 0 < xs.length := List.length_pos_iff.mpr h0
  obtain ⟨i, b', ht, h2, h3, h4⟩ := take_spec (m := xs.length) hb hN (by omega) (by omega)
  obtain ⟨x, hx, ha⟩ := at_mem h2 h3
  have hf := fznL_mem hz x hx
  refine ⟨x, b', ?_, hx, h4⟩
  unfold m_l_of b_l_of
  rcases hd with rfl | rfl
  · skip
    rw [v_fn]
    walk_at "ev"
  · rw [v_fn]
    walk_at "ev"
end
section
/-! ### comprehensions of a list given by a map -/
theorem lcF_map {α : Type} {g : MG} {m : ME} {ws : List Nat} {env : Env} {f y : α → D} : ∀ (l : List α) (acc : List D), (∀ a ∈ l, ∃ e, g (f a) env = some e ∧ m e = .ok (y a) e ∧ wipeE e ws = env) → acc.length + l.length ≤ sizeLine →
    lcF g bYes m ws (l.map f) acc env = .ok (acc ++ l.map y) env
  | [], acc, _, _ => by simp [lcF]
  | a :: l, acc, h, hl => by
    obtain ⟨e, h1, h3, h4⟩ := h a (List.mem_cons_self ..)
    rw [List.map_cons, lcF, h1]
    simp only [v_bYes, v_b0, if_true, h3]
    rw [if_pos (by simp at hl; omega), h4, lcF_map l (acc ++ [y a]) (fun d hd => h d (List.mem_cons_of_mem _ hd)) (by simp at hl ⊢; omega)]
    simp
theorem eLc_map {α : Type} {it : MI} {g : MG} {m : ME} {ws : List Nat} {env e env0 : Env} (l : List α) (f y : α → D) (h1 : it env = .ok (l.map f) e) (h2 : wipeE e ws = env0) (hl : l.length ≤ sizeLine)
    (h : ∀ a ∈ l, ∃ e, g (f a) env0 = some e ∧ m e = .ok (y a) e ∧ wipeE e ws = env0) : eLc it g bYes m ws env = .ok (.lst true (l.map y)) env0 := by
  rw [v_lc, h1, b_bo, h2, lcF_map l [] h (by simpa using hl), b_b0]
  rfl
theorem eLc_inv {it : MI} {g : MG} {m : ME} {ws : List Nat} {env e : Env} {ds : List D} (h1 : it env = .ok ds e) (hl : ds.length ≤ sizeLine) (Iv : Nat → List D → Env → Prop) (h0 : Iv 0 [] (wipeE e ws))
    (h : ∀ i d acc env, ds[i]? = some d → Iv i acc env → ∃ e e2 y, g d env = some e ∧ m e = .ok y e2 ∧ Iv (i + 1) (acc ++ [y]) (wipeE e2 ws)) : ∃ r e', eLc it g bYes m ws env = .ok (.lst true r) e' ∧ Iv ds.length r e' := by
  obtain ⟨r, e', k1, k2⟩ := lc_inv (g := g) (c := bYes) (m := m) (ws := ws) ds Iv (fun i d acc env hd hi => by
    obtain ⟨e, e2, y, h3, h4, h5⟩ := h i d acc env hd hi
    exact ⟨e, e, e2, y, h3, rfl, h4, h5⟩) (acc := []) (by simpa using hl) h0
  exact ⟨r, e', by rw [v_lc, h1, b_bo, k1, b_b0], k2⟩
theorem cF_map {α β : Type} {g : MG} {m : ML} {ws : List Nat} {env : Env} {add : β → List D → Option β} {f : α → D} {y : α → List D} (acc : List α → β) : ∀ (l done : List α), (∀ a ∈ l, ∃ e, g (f a) env = some e ∧ m e = .ok (y a) e ∧ wipeE e ws = env) →
    (∀ k a l', done ++ l = k ++ a :: l' → add (acc k) (y a) = some (acc (k ++ [a]))) → cF g bYes m ws add (l.map f) (acc done) env = .ok (acc (done ++ l)) env
  | [], done, _, _ => by simp [cF]
  | a :: l, done, h, hl => by
    obtain ⟨e, h1, h3, h4⟩ := h a (List.mem_cons_self ..)
    rw [List.map_cons, cF, h1]
    simp only [v_bYes, v_b0, if_true, h3]
    rw [hl done a l rfl]
    simp only [h4]
    rw [cF_map acc l (done ++ [a]) (fun d hd => h d (List.mem_cons_of_mem _ hd)) (fun k b l' hk => hl k b l' (by simpa using hk))]
    simp
theorem eComp_map {α β : Type} {it : MI} {g : MG} {m : ML} {ws : List Nat} {env e env0 : Env} {add : β → List D → Option β} {a0 : β} {fin : β → D} (l : List α) (f : α → D) (y : α → List D) (acc : List α → β) (ha : acc [] = a0) (h1 : it env = .ok (l.map f) e) (h2 : wipeE e ws = env0)
    (h : ∀ a ∈ l, ∃ e, g (f a) env0 = some e ∧ m e = .ok (y a) e ∧ wipeE e ws = env0)
    (hl : ∀ k a l', l = k ++ a :: l' → add (acc k) (y a) = some (acc (k ++ [a]))) : eComp it g bYes m ws add a0 fin env = .ok (fin (acc l)) env0 := by
  unfold eComp
  rw [h1, v_bo, h2, ← ha, cF_map acc l [] h (by simpa using hl), v_b0]
  rfl
/-- a dict of distinct keys -/
theorem look_none {α : Type} {k v : α → D} {x : D} : ∀ {l : List α}, (∀ a ∈ l, eqF (k a) x = false) → lookD (l.map fun a => (k a, v a)) x = none
  | [], _ => rfl
  | a :: l, h => by
    have ih := look_none (k := k) (v := v) (x := x) (l := l) fun b hb => h b (List.mem_cons_of_mem _ hb)
    unfold lookD at ih ⊢
    rw [List.map_cons, List.find?_cons, h a (List.mem_cons_self ..)]
    exact ih
theorem eDc_map {α : Type} {it : MI} {g : MG} {mk mv : ME} {ws : List Nat} {env e env0 : Env} (l : List α) (f k v : α → D) (h1 : it env = .ok (l.map f) e) (h2 : wipeE e ws = env0) (hs : l.length ≤ sizeLine)
    (h : ∀ a ∈ l, ∃ e, g (f a) env0 = some e ∧ mk e = .ok (k a) e ∧ mv e = .ok (v a) e ∧ wipeE e ws = env0) (hk : ∀ a ∈ l, (keyD (k a)).isSome = true ∧ fzn (v a) = true) (hn : l.Pairwise fun a b => eqF (k a) (k b) = false) :
    eDc it g bYes mk mv ws env = .ok (.dct true (l.map fun a => (k a, v a))) env0 := by
  unfold eDc
  refine eComp_map l f (fun a => [k a, v a]) (fun l => l.map fun a => (k a, v a)) rfl h1 h2 (fun a ha => ?_) fun kk a l' e => ?_
  · obtain ⟨e, q1, q2, q3, q4⟩ := h a ha
    refine ⟨e, q1, ?_, q4⟩
    rw [v_cons, q2, b_bo, v_cons, q3, b_bo]
    rfl
  · obtain ⟨q1, q2⟩ := hk a (by rw [e]; simp)
    have q3 : kk.length < sizeLine := by rw [e] at hs; simp at hs; omega
    rw [e, List.pairwise_append] at hn
    have q4 : ∀ b ∈ kk, eqF (k b) (k a) = false := fun b hb => hn.2.2 b hb a (List.mem_cons_self ..)
    rw [addKD]
    cases q : keyD (k a) with
    | none => rw [q] at q1; cases q1
    | some z =>
      simp only [List.length_map, q2, Bool.and_true, decide_eq_true_eq, q3, if_true, putKD]
      rw [look_none q4]
      simp
/-- a set of texts -/
theorem eSc_strs {α : Type} {it : MI} {g : MG} {m : ME} {ws : List Nat} {env e env0 : Env} (l : List α) (f : α → D) (y : α → Str) (h0 : l ≠ []) (h1 : it env = .ok (l.map f) e) (h2 : wipeE e ws = env0) (hs : l.length ≤ 1000)
    (h : ∀ a ∈ l, ∃ e, g (f a) env0 = some e ∧ m e = .ok (.str (y a)) e ∧ wipeE e ws = env0) (hn : (l.map y).Nodup) :
    eSc it g bYes m ws env = .ok (.set (.non :: (l.map y).map .str)) env0 := by
  have h' : ∀ a ∈ l, ∃ e, g (f a) env0 = some e ∧ lCons m lNil e = .ok [.str (y a)] e ∧ wipeE e ws = env0 := fun a ha => by
    obtain ⟨e, q1, q2, q4⟩ := h a ha
    refine ⟨e, q1, ?_, q4⟩
    rw [v_cons, q2, b_bo]
    rfl
  have k1 : eComp it g bYes (lCons m lNil) ws addSI [] (fun ns => .set (ns.map .int)) env = .no := by
    unfold eComp
    rw [h1, v_bo, h2]
    cases l with
    | nil => exact absurd rfl h0
    | cons a l =>
      obtain ⟨e, q1, q2, _⟩ := h' a (List.mem_cons_self ..)
      rw [List.map_cons, cF, q1]
      simp only [v_bYes, v_b0, if_true, q2]
      rfl
  have k2 : eComp it g bYes (lCons m lNil) ws addST [] (fun xs => .set (.non :: xs.map .str)) env = .ok (.set (.non :: (l.map y).map .str)) env0 := by
    refine eComp_map (fin := fun xs : List Str => D.set (.non :: xs.map .str)) l f (fun a => [.str (y a)]) (fun l => l.map y) rfl h1 h2 h' fun kk a l' e => ?_
    rw [addST, if_pos (by rw [e] at hs; simp at hs ⊢; omega)]
    rw [if_neg]
    · simp
    · rw [e] at hn
      simp only [List.map_append, List.map_cons, List.nodup_append] at hn
      simp only [List.any_eq_true, decide_eq_true_eq, not_exists, not_and]
      intro z hz e2
      exact hn.2.2 z hz (y a) (List.mem_cons_self ..) e2.symm
  unfold eSc
  rw [k1, k2]
theorem all_t {α : Type} {o : Bool} {l : List α} : fAll [.lst o (l.map fun _ => .bl true)] = some (.bl true) := by
  have : ∀ l : List α, boolsD (l.map fun _ => .bl true) = some (l.map fun _ => true) := by
    intro l
    induction l with
    | nil => rfl
    | cons a l ih => rw [List.map_cons, boolsD, ih]; rfl
  unfold fAll lBools
  simp only
  rw [this]
  simp
end
section
/-! ### rows of an instruction table -/
structure Row where
  op : Nat
  nm : Str
  ln : Nat
  en : Bool
def Row.d (r : Row) : D := .tup [.int r.op, .str r.nm, .int r.ln, .bl r.en]
def abc : Str := PySem.Str.ofString "abcdefghijklmnopqrstuvwxyz"
structure NameOk (x : Str) : Prop where
  lo : 1 ≤ x.length
  hi : x.length ≤ 8
  abc : ∀ c ∈ x.cps.toList, c ∈ abc.cps.toList
structure RowOk (c L : Nat) (r : Row) : Prop where
  op : r.op < c
  nm : NameOk r.nm
  l0 : 1 ≤ r.ln
  l1 : r.ln ≤ L
structure TabOk (c L : Nat) (rs : List Row) : Prop where
  lo : 2 ≤ c
  hi : c ≤ 256
  ne : rs ≠ []
  len : rs.length ≤ c
  row : ∀ r ∈ rs, RowOk c L r
  asc : rs.Pairwise fun a b => a.op < b.op
  nms : (rs.map (·.nm)).Nodup
def tabD (c : Nat) (rs : List Row) : D := .tup [.int c, .tup (rs.map Row.d)]
theorem fzn_row (r : Row) : fzn r.d = true := rfl
theorem fznL_rows (rs : List Row) : fznL (rs.map Row.d) = true := fznL_map fun r _ => fzn_row r
theorem seq_rows (rs : List Row) : seqD (.tup (fzL (rs.map Row.d))) = some (rs.map Row.d) := by
  rw [fz_sameL _ (fznL_rows rs)]
  rfl
theorem isint_spec {x lo hi : Int} (h1 : lo ≤ x) (h2 : x ≤ hi) : m_is_integer [.int x, .int lo, .int hi] = .ok (.bl true) [] := by
  unfold m_is_integer b_is_integer
  rw [v_fn]
  walk_at "ev"
theorem isname_spec {x : Str} (h : NameOk x) : m_is_name [.str x] = .ok (.bl true) [] := by
  have h1 : x.length ≤ sizeLine := Nat.le_trans h.hi (by decide)
  have h2 : fLen [.str x] = some (.int x.length) := if_pos h1
  have h3 : (1 : Int) ≤ (x.length : Int) := by have := h.lo; omega
  have h4 : (x.length : Int) ≤ 8 := by have := h.hi; omega
  have hc : cp_is_name_1 [some (.str x), none] = .ok (.lst true (x.cps.toList.map fun _ => .bl true)) [some (.str x), none] := by
    unfold cp_is_name_1
    refine eLc_map x.cps.toList (fun c => .str ⟨#[c]⟩) _ (e := [some (.str x), none]) ?_ rfl ?_ fun c hc => ⟨[some (.str x), some (.str ⟨#[c]⟩)], rfl, ?_, rfl⟩
    · walk_at "ev"
    · exact h1
    · unfold ce_is_name_1
      have : fIn (.str ⟨#[c]⟩) (.str (PySem.Str.ofString "abcdefghijklmnopqrstuvwxyz")) = some (.bl true) := by
        have : c ∈ (PySem.Str.ofString "abcdefghijklmnopqrstuvwxyz").cps.toList := h.abc c hc
        show some (D.bl (decide (c ∈ (PySem.Str.ofString "abcdefghijklmnopqrstuvwxyz").cps.toList))) = _
        rw [decide_eq_true this]
      walk_at "ev"
  have ha := all_t (o := true) (l := x.cps.toList)
  unfold m_is_name b_is_name
  rw [v_fn]
  walk_at "ev"
theorem isinst_spec {c L : Nat} {r : Row} (h : RowOk c L r) (hL : L ≤ 12) : m_is_instruction [r.d, .int c] = .ok (.bl true) [] := by
  have h1 := isint_spec (x := r.op) (lo := 0) (hi := (c : Int) - 1) (by omega) (by have := h.op; omega)
  have h2 := isname_spec h.nm
  have h3 := isint_spec (x := r.ln) (lo := 1) (hi := 12) (by have := h.l0; omega) (by have := h.l1; omega)
  have h4 : fNe2 (.int (([D.int r.op, .str r.nm, .int r.ln, .bl r.en] : List D).length : Nat)) (.int 4) = some (.bl false) := rfl
  unfold m_is_instruction b_is_instruction Row.d
  rw [v_fn]
  walk_at "ev"
theorem cut1 {α : Type} {xs : List α} : cutA xs (some 1) none = xs.drop 1 := by
  unfold cutA
  have h1 : HT.sIx xs.length 0 (some 1) = min 1 xs.length := by simp [HT.sIx]
  have h2 : HT.sIx xs.length xs.length none = xs.length := by simp [HT.sIx]
  rw [h1, h2]
  rcases Nat.lt_or_ge 0 xs.length with h | h
  · rw [show min 1 xs.length = 1 by omega]
    exact List.take_of_length_le (by simp)
  · have : xs = [] := List.eq_nil_of_length_eq_zero (by omega)
    subst this
    rfl
theorem zip_tail {ns : List Nat} (h : ns.Pairwise (· < ·)) : ∃ l : List (Nat × Nat), List.zipWith (fun x y : D => D.tup [x, y]) (ns.map fun n : Nat => D.int n) ((ns.map fun n : Nat => D.int n).drop 1) = l.map (fun p => D.tup [.int (p.1 : Nat), .int (p.2 : Nat)]) ∧ (∀ p ∈ l, p.1 < p.2) ∧ l.length ≤ ns.length := by
  induction ns with
  | nil => exact ⟨[], rfl, fun _ h => (by cases h), Nat.le_refl _⟩
  | cons a ns ih =>
    cases ns with
    | nil => exact ⟨[], rfl, fun _ h => (by cases h), Nat.zero_le _⟩
    | cons b ns =>
      rw [List.pairwise_cons] at h
      obtain ⟨l, h1, h2, h3⟩ := ih h.2
      refine ⟨(a, b) :: l, ?_, ?_, by simp at h3 ⊢; omega⟩
      · simp only [List.map_cons, List.drop_succ_cons, List.drop_zero, List.zipWith_cons_cons] at h1 ⊢
        rw [h1]
      · intro p hp
        rcases List.mem_cons.mp hp with rfl | hp
        · exact h.1 b (List.mem_cons_self ..)
        · exact h2 p hp
theorem fznL_ints {α : Type} {l : List α} {y : α → Int} : fznL (l.map fun a => D.int (y a)) = true := fznL_map fun _ _ => rfl
theorem asc_spec {ns : List Nat} (h : ns.Pairwise (· < ·)) (hl : ns.length ≤ 1000) : m_is_ascending [.lst false (ns.map fun n : Nat => .int n)] = .ok (.bl true) [] := by
  obtain ⟨l, h1, h2, h3⟩ := zip_tail h
  have z1 : fznL (ns.map fun n : Nat => D.int n) = true := fznL_ints
  have z2 : fzL ((ns.map fun n : Nat => D.int n).drop 1) = (ns.map fun n : Nat => D.int n).drop 1 := by
    rw [← List.map_drop]
    exact fz_sameL _ fznL_ints
  generalize hX : (ns.map fun n : Nat => D.int n) = X at *
  have hc : cp_is_ascending_1 [some (.lst false X), none, none] = .ok (.lst true (l.map fun _ => .bl true)) [some (.lst false X), none, none] := by
    unfold cp_is_ascending_1
    refine eLc_map l (fun p => .tup [.int (p.1 : Nat), .int (p.2 : Nat)]) _ (e := [some (.lst false X), none, none]) ?_ rfl ?_ fun p hp => ⟨[some (.lst false X), some (.int (p.1 : Nat)), some (.int (p.2 : Nat))], rfl, ?_, rfl⟩
    · have e1 := cut1 (xs := X)
      walk_at "ev"
    · exact Nat.le_trans (by omega : l.length ≤ 1000) (by decide)
    · unfold ce_is_ascending_1
      have : ((p.1 : Nat) : Int) < ((p.2 : Nat) : Int) := by have := h2 p hp; omega
      walk_at "ev"
  have ha := all_t (o := true) (l := l)
  unfold m_is_ascending b_is_ascending
  rw [v_fn]
  walk_at "ev"
theorem eq_nil {ds : List D} {ps : List PyData} (h : toPyL ds = some ps) (hp : plainA 60 ps = true) (h0 : ds ≠ []) : fEq2 (.tup ds) (.tup []) = some (.bl false) := by
  show fEq (.tup ds) (.tup []) = _
  unfold fEq eqP
  rw [toPy, toPy, h]
  have e1 : SeqAt.shaped (.tuple ps) = true := shaped_of (n := 61) (by simpa [plainD] using hp) (by decide)
  have e2 : SeqAt.shaped (.tuple []) = true := by decide
  show ((if (SeqAt.shaped (.tuple ps) && SeqAt.shaped (.tuple [])) = true then some (PyData.eqv (.tuple ps) (.tuple [])) else none).map D.bl) = _
  rw [e1, e2]
  cases ds with
  | nil => exact absurd rfl h0
  | cons d ds =>
    rw [toPyL, Option.bind_eq_some_iff] at h
    obtain ⟨p, _, h⟩ := h
    rw [Option.map_eq_some_iff] at h
    obtain ⟨qs, _, rfl⟩ := h
    rfl
theorem toPyL_map {α : Type} {f : α → D} {g : α → PyData} : ∀ {l : List α}, (∀ a ∈ l, toPy (f a) = some (g a)) → toPyL (l.map f) = some (l.map g)
  | [], _ => by rw [List.map_nil, toPyL]; rfl
  | a :: l, h => by
    rw [List.map_cons, toPyL, h a (List.mem_cons_self ..), toPyL_map fun b hb => h b (List.mem_cons_of_mem _ hb)]
    rfl
def Row.p (r : Row) : PyData := .tuple [.int r.op, .str r.nm, .int r.ln, .bool r.en]
theorem NameOk.ok {x : Str} (h : NameOk x) : PyData.strOk x = true := by
  unfold PyData.strOk
  rw [Array.all_eq_true']
  intro c hc
  have := h.abc c (by simpa using hc)
  have h2 : ∀ c ∈ Mi.abc.cps.toList, c < 0x110000 := by decide
  exact decide_eq_true (h2 c this)
theorem row_py (r : Row) : toPy r.d = some r.p := by
  simp [Row.d, Row.p, toPy, toPyL]
theorem row_plain {r : Row} (h : NameOk r.nm) {n : Nat} : plainD (n + 1) r.p = true := by
  simp [Row.p, plainD, plainA, h.ok, plain_int, plain_bool]
end
section
/-! ### tables and machines -/
theorem TabOk.ops {c L : Nat} {rs : List Row} (h : TabOk c L rs) : (rs.map (·.op)).Pairwise (· < ·) := List.pairwise_map.mpr h.asc
theorem areinst_spec {c L : Nat} {rs : List Row} (h : TabOk c L rs) (hL : L ≤ 12) : m_are_instructions [.tup (rs.map Row.d), .int c] = .ok (.bl true) [] := by
  have hl : rs.length ≤ 256 := Nat.le_trans h.len h.hi
  have hs : rs.length ≤ sizeLine := Nat.le_trans hl (by decide)
  have z1 := fznL_rows rs
  have z2 := seq_rows rs
  have e0 : fEq2 (.tup (rs.map Row.d)) (.tup []) = some (.bl false) := eq_nil (toPyL_map fun r _ => row_py r) (plainA_map fun r hr => row_plain (h.row r hr).nm) (by simpa using h.ne)
  have hA := h.ops
  have hc3 : cp_are_instructions_3 [some (.tup (rs.map Row.d)), some (.int c), none, none] = .ok (.lst true (rs.map fun _ => .bl true)) [some (.tup (rs.map Row.d)), some (.int c), none, none] := by
    unfold cp_are_instructions_3
    refine eLc_map rs Row.d _ (e := [some (.tup (rs.map Row.d)), some (.int c), none, none]) ?_ rfl hs fun r hr => ⟨[some (.tup (rs.map Row.d)), some (.int c), none, some r.d], rfl, ?_, rfl⟩
    · walk_at "ev"
    · have := isinst_spec (h.row r hr) hL
      have := fzn_row r
      unfold ce_are_instructions_2
      walk_at "ev"
  have hc2 : cp_are_instructions_2 [some (.tup (rs.map Row.d)), some (.int c), none, none] = .ok (.set (.non :: (rs.map (·.nm)).map .str)) [some (.tup (rs.map Row.d)), some (.int c), none, none] := by
    unfold cp_are_instructions_2
    refine eSc_strs rs Row.d (·.nm) h.ne (e := [some (.tup (rs.map Row.d)), some (.int c), none, none]) ?_ rfl (by omega) (fun r hr => ⟨[some (.tup (rs.map Row.d)), some (.int c), none, some r.d], rfl, ?_, rfl⟩) h.nms
    · walk_at "ev"
    · unfold Row.d
      walk_at "ev"
  have hc1 : ∀ s : D, cp_are_instructions_1 [some (.tup (rs.map Row.d)), some (.int c), some s, none] = .ok (.lst true ((rs.map (·.op)).map fun n : Nat => .int n)) [some (.tup (rs.map Row.d)), some (.int c), some s, none] := by
    intro s
    unfold cp_are_instructions_1
    rw [List.map_map]
    refine eLc_map rs Row.d _ (e := [some (.tup (rs.map Row.d)), some (.int c), some s, none]) ?_ rfl hs fun r hr => ⟨[some (.tup (rs.map Row.d)), some (.int c), some s, some r.d], rfl, ?_, rfl⟩
    · walk_at "ev"
    · unfold ce_are_instructions_1 Row.d
      walk_at "ev"
      rfl
  have ha := all_t (o := true) (l := rs)
  have z3 : fzL ((rs.map (·.op)).map fun n : Nat => D.int n) = (rs.map (·.op)).map fun n : Nat => D.int n := fz_sameL _ fznL_ints
  have hasc := asc_spec hA (by simpa using (by omega : rs.length ≤ 1000))
  have e1 : fLen [.set (.non :: (rs.map (·.nm)).map D.str)] = some (.int rs.length) := by simp [fLen]
  have e2 : fLen [.tup (rs.map Row.d)] = some (.int rs.length) := by simp [fLen]
  unfold m_are_instructions b_are_instructions
  rw [v_fn]
  clear hl hs hA
  generalize hX : rs.map Row.d = X at *
  generalize hY : ((rs.map (·.op)).map fun n : Nat => D.int n) = Y at *
  generalize hS : (rs.map (·.nm)).map D.str = S at *
  walk_at "ev"
def opKv (r : Row) : D × D := (.int r.op, r.d)
def machD (o : Bool) (c : Nat) (rs : List Row) : D := .ins o "InstructionSet" [("byte_count", .int c), ("instructions", .tup (rs.map Row.d)), ("by_opcode", .dct o (rs.map opKv))]
theorem machine_spec {c L : Nat} {rs : List Row} (h : TabOk c L rs) (hL : L ≤ 12) : m_l_machine [tabD c rs] = .ok (machD true c rs) [] := by
  have hs : rs.length ≤ sizeLine := Nat.le_trans (Nat.le_trans h.len h.hi) (by decide)
  have h1 := areinst_spec h hL
  have h2 := isint_spec (x := (c : Int)) (lo := 2) (hi := 256) (by have := h.lo; omega) (by have := h.hi; omega)
  have z1 := fznL_rows rs
  have z2 := seq_rows rs
  have key : ∀ s : D, cp_InstructionSet_init_1 [some s, some (.int c), some (.tup (rs.map Row.d)), none] = .ok (.dct true (rs.map opKv)) [some s, some (.int c), some (.tup (rs.map Row.d)), none] := by
    intro s
    unfold cp_InstructionSet_init_1
    refine eDc_map rs Row.d (fun r => .int r.op) (fun r => r.d) (e := [some s, some (.int c), some (.tup (rs.map Row.d)), none]) ?_ rfl hs (fun r hr => ⟨[some s, some (.int c), some (.tup (rs.map Row.d)), some r.d], rfl, ?_, ?_, rfl⟩) (fun r _ => ⟨rfl, rfl⟩) (h.asc.imp fun {a b} hab => ?_)
    · walk_at "ev"
    · unfold Row.d
      walk_at "ev"
    · have := fzn_row r
      walk_at "ev"
    · exact beq_eq_false_iff_ne.mpr (by omega)
  have c1 : (["InstructionSet"] : List String).contains "InstructionSet" = true := by decide
  have q1 : ([] : List (String × D)).length < 1000 := by decide
  have q2 : ∀ {a : String × D}, ([a] : List (String × D)).length < 1000 := fun {a} => by simp
  have q3 : ∀ {a b : String × D}, ([a, b] : List (String × D)).length < 1000 := fun {a b} => by simp
  have n1 : ¬ ("byte_count" : String) = "instructions" := by decide
  have n2 : ¬ ("byte_count" : String) = "by_opcode" := by decide
  have n3 : ¬ ("instructions" : String) = "by_opcode" := by decide
  unfold m_l_machine b_l_machine tabD machD
  rw [v_fn]
  clear hs h hL
  generalize hX : rs.map Row.d = X at *
  generalize hY : rs.map opKv = Y at *
  walk_at "ev"
  unfold m_InstructionSet_init b_InstructionSet_init
  rw [v_fn]
  walk_at "ev"
end
section
/-! ### queries of a table and of a machine -/
theorem fz_mach {c : Nat} {rs : List Row} : fz (machD true c rs) = machD false c rs := by
  have e : fzK (rs.map opKv) = rs.map opKv := fz_sameK _ (by
    induction rs with
    | nil => rfl
    | cons r rs ih => rw [List.map_cons, opKv, fznK, ih, fzn_row]; rfl)
  unfold machD
  simp only [fz, fzF, e, fz_sameL _ (fznL_rows rs)]
theorem fznK_ops (rs : List Row) : fznK (rs.map opKv) = true := by
  induction rs with
  | nil => rfl
  | cons r rs ih => rw [List.map_cons, opKv, fznK, ih, fzn_row]; rfl
theorem fzn_mach {c : Nat} {rs : List Row} : fzn (machD false c rs) = true := by
  unfold machD
  simp only [fzn, fznF, fznL_rows rs, fznK_ops rs]
  rfl
theorem fzn_mach' {c : Nat} {rs : List Row} : fzn (machD true c rs) = false := by
  unfold machD
  simp only [fzn, fznF]
  rfl
theorem lk0 {a b d : D} : ([("byte_count", a), ("instructions", b), ("by_opcode", d)] : List (String × D)).lookup "byte_count" = some a := by simp [List.lookup]
theorem cl1 : (["InstructionSet"] : List String).contains "InstructionSet" = true := by decide
end
section
/-! ### names of a table -/
def ltr (f a : Nat) : Nat := abc.cps.toList.getD ((f + 5 * a) % 26) 0
def sfx (c : Nat) : Nat := if c = 122 then 121 else 122
structure NameIs (x : Str) (f a : Nat) : Prop where
  is : ∃ k, 1 ≤ k ∧ k ≤ 3 ∧ x.cps.toList = List.replicate k (ltr f a) ++ List.replicate (a / 26) (sfx (ltr f a))
theorem abc_len : abc.cps.toList.length = 26 := by decide
theorem abc_nd : abc.cps.toList.Nodup := by decide
theorem ltr_get {f a : Nat} : abc.cps.toList[(f + 5 * a) % 26]? = some (ltr f a) := by
  have h : (f + 5 * a) % 26 < abc.cps.toList.length := by rw [abc_len]; exact Nat.mod_lt _ (by decide)
  unfold ltr
  rw [List.getD_eq_getElem?_getD, List.getElem?_eq_getElem h]
  rfl
theorem ltr_mem {f a : Nat} : ltr f a ∈ abc.cps.toList := List.mem_of_getElem? ltr_get
theorem sfx_mem {c : Nat} : sfx c ∈ abc.cps.toList := by
  unfold sfx
  split <;> decide
theorem sfx_ne {c : Nat} : sfx c ≠ c := by
  unfold sfx
  split <;> omega
theorem ltr_inj {f a b : Nat} (h : ltr f a = ltr f b) : a % 26 = b % 26 := by
  have ha : (f + 5 * a) % 26 < abc.cps.toList.length := by rw [abc_len]; exact Nat.mod_lt _ (by decide)
  have : (f + 5 * a) % 26 = (f + 5 * b) % 26 := (List.getElem?_inj ha abc_nd).mp (by rw [ltr_get (f := f) (a := a), ltr_get (f := f) (a := b), h])
  omega
theorem NameIs.len {x : Str} {f a : Nat} (h : NameIs x f a) : 1 ≤ x.length ∧ x.length ≤ 3 + a / 26 := by
  obtain ⟨k, h1, h2, h3⟩ := h.is
  have : x.length = x.cps.toList.length := rfl
  rw [this, h3]
  simp
  omega
theorem NameIs.ok {x : Str} {f a : Nat} (h : NameIs x f a) (ha : a < 150) : NameOk x := by
  obtain ⟨h4, h5⟩ := h.len
  obtain ⟨k, h1, h2, h3⟩ := h.is
  refine ⟨h4, by omega, fun c hc => ?_⟩
  rw [h3, List.mem_append] at hc
  rcases hc with hc | hc
  · rw [List.eq_of_mem_replicate hc]; exact ltr_mem
  · rw [List.eq_of_mem_replicate hc]; exact sfx_mem
theorem NameIs.inj {x : Str} {f a b : Nat} (h : NameIs x f a) (g : NameIs x f b) : a = b := by
  obtain ⟨k, h1, h2, h3⟩ := h.is
  obtain ⟨j, g1, g2, g3⟩ := g.is
  obtain ⟨k, rfl⟩ : ∃ i, k = i + 1 := ⟨k - 1, by omega⟩
  obtain ⟨j, rfl⟩ : ∃ i, j = i + 1 := ⟨j - 1, by omega⟩
  have e : ltr f a = ltr f b := by
    rw [h3] at g3
    simp only [List.replicate_succ, List.cons_append, List.cons.injEq] at g3
    exact g3.1
  have e1 := ltr_inj e
  have cnt : ∀ (n m c : Nat), (List.replicate n c ++ List.replicate m (sfx c)).countP (fun y => decide (y ≠ c)) = m := by
    intro n m c
    have := sfx_ne (c := c)
    rw [List.countP_append, List.countP_replicate, List.countP_replicate]
    simp [this]
  have e2 := cnt (k + 1) (a / 26) (ltr f a)
  rw [← h3, g3, e] at e2
  have e3 := cnt (j + 1) (b / 26) (ltr f b)
  omega
theorem mul1 {c n : Nat} : (Txt.mul ⟨#[c]⟩ (n : Int)).cps.toList = List.replicate n c := by
  have key : ∀ (n : Nat) (acc : Array Nat), ((List.replicate n #[c]).foldl (· ++ ·) acc).toList = acc.toList ++ List.replicate n c := by
    intro n
    induction n with
    | zero => intro acc; simp
    | succ n ih =>
      intro acc
      rw [List.replicate_succ, List.foldl_cons, ih, List.replicate_succ]
      simp
  unfold Txt.mul
  split
  · have : n = 0 := by omega
    subst this
    rfl
  · split
    · rename_i h1 h2
      have h3 : ((⟨#[c]⟩ : Str).length == 0) = false := rfl
      rw [h3, Bool.or_false] at h2
      have : n = 1 := by have := eq_of_beq h2; omega
      subst this
      rfl
    · rw [show ((n : Int)).toNat = n from Int.toNat_natCast n, key]
      rfl
theorem mul_st {c n : Nat} (h : n ≤ 1000) : ∃ x, fMul (.str ⟨#[c]⟩) (.int (n : Int)) = some (.str x) ∧ x.cps.toList = List.replicate n c :=
  ⟨_, if_pos ⟨by omega, by omega, by show (1 : Nat) ≤ 1000; decide⟩, mul1⟩
theorem add_st {x y : Str} (h : x.cps.toList.length + y.cps.toList.length ≤ 1000) : ∃ z, fAdd (.str x) (.str y) = some (.str z) ∧ z.cps.toList = x.cps.toList ++ y.cps.toList := by
  refine ⟨x ++ y, if_pos (Nat.le_trans h (by decide)), ?_⟩
  show (x.cps ++ y.cps).toList = _
  simp
theorem row_step {N f a op L M : Nat} {b cD oD : D} {mo : Int} {found : List D} {x10 x11 x12 : Option D} (hb : Bx N b) (hN : N + 10 ≤ 2 ^ 60) (hL0 : 1 ≤ L) (hL : L ≤ 1000) (ha : a < 1000) (hf : f < 26) (hfl : found.length < 1000) :
    ∃ (r : Row) (b' : D) (y10 y11 y12 : Option D), lb_l_table_1 [some b, some (.int mo), some (.int L), some cD, some (.int M), some oD, some (.lst true found), some (.int f), some (.int a), some (.int op), x10, x11, x12] =
      .ok .nx [some b', some (.int mo), some (.int L), some cD, some (.int M), some oD, some (.lst true (found ++ [r.d])), some (.int f), some (.int a), some (.int op), y10, y11, y12] ∧ Bx (N + 10) b' ∧ r.op = op ∧ NameIs r.nm f a ∧ 1 ≤ r.ln ∧ r.ln ≤ L ∧ (a = 0 → r.en = true) := by
  have hS : found.length < sizeLine := Nat.lt_of_lt_of_le hfl (by decide)
  obtain ⟨r1, b1, t1, p1, p2, hb1⟩ := take_spec (m := 3) hb (by omega) (by decide) (by decide +kernel)
  obtain ⟨k, rfl⟩ := Int.eq_ofNat_of_zero_le p1
  obtain ⟨s1, m1, m2⟩ := mul_st (c := ltr f a) (n := 1 + k) (by omega)
  obtain ⟨s2, m3, m4⟩ := mul_st (c := sfx (ltr f a)) (n := a / 26) (by omega)
  obtain ⟨s3, m5, m6⟩ := add_st (x := s1) (y := s2) (by rw [m2, m4]; simp; omega)
  obtain ⟨r2, b2, t2, p3, p4, hb2⟩ := take_spec (m := (L : Int)) hb1 (by omega) (by omega) (by omega)
  obtain ⟨r3, b3, t3, p5, hb3⟩ := of_spec (xs := [.int 1, .int 2, .int 3, .int (1 + r2)]) hb2 (by omega) (.inl rfl) (by simp) (by simp) rfl
  obtain ⟨v, rfl, v1⟩ : ∃ v : Int, r3 = .int v ∧ 1 ≤ v := by
    simp only [List.mem_cons, List.not_mem_nil, or_false] at p5
    rcases p5 with rfl | rfl | rfl | rfl
    · exact ⟨_, rfl, by omega⟩
    · exact ⟨_, rfl, by omega⟩
    · exact ⟨_, rfl, by omega⟩
    · exact ⟨_, rfl, by omega⟩
  obtain ⟨w, hw, w1, w2⟩ : ∃ w : Nat, fMin2 [.int v, .int (L : Int)] = some (.int w) ∧ 1 ≤ w ∧ w ≤ L := by
    by_cases h : (L : Int) < v
    · exact ⟨L, by simp only [fMin2, h, if_true], by omega, by omega⟩
    · exact ⟨v.toNat, by simp only [fMin2, h, if_false]; congr 2; omega, by omega, by omega⟩
  obtain ⟨r4, b4, t4, p6, p7, hb4⟩ := take_spec (m := 2) hb3 (by omega) (by decide) (by decide +kernel)
  have i1 : fIx (.str (PySem.Str.ofString "abcdefghijklmnopqrstuvwxyz")) (.int (((f : Int) + 5 * (a : Int)) % 26)) = some (.str ⟨#[ltr f a]⟩) := by
    have e : ((f : Int) + 5 * (a : Int)) % 26 = (((f + 5 * a) % 26 : Nat) : Int) := by omega
    rw [e]
    show (if (PySem.Str.ofString "abcdefghijklmnopqrstuvwxyz").length ≤ sizeLine then (atI (PySem.Str.ofString "abcdefghijklmnopqrstuvwxyz").cps.toList (((f + 5 * a) % 26 : Nat) : Int)).map fun c => D.str ⟨#[c]⟩ else none) = _
    rw [if_pos (by decide), show (PySem.Str.ofString "abcdefghijklmnopqrstuvwxyz") = abc from rfl, atI_nat ltr_get]
    rfl
  have i2 : mulOk 5 (a : Int) = true := mulOk_s (by omega) (by decide +kernel) (by omega) (lt_k (k := 1000) (by omega))
  have i3 : (0 : Int) < 26 := by decide
  have i4 : (26 : Int).natAbs.log2 < 9000 := by decide +kernel
  have i5 : (a : Int) / 26 = ((a / 26 : Nat) : Int) := by omega
  have i6 : (1 : Int) + (k : Int) = ((1 + k : Nat) : Int) := by omega
  obtain ⟨z, i7, i8⟩ : ∃ z : Bool, decide ((⟨#[ltr f a]⟩ : Str) = PySem.Str.ofString "z") = z ∧ fMul (.str (if z = true then PySem.Str.ofString "y" else PySem.Str.ofString "z")) (.int ((a / 26 : Nat) : Int)) = some (.str s2) := by
    have e1 : PySem.Str.ofString "y" = ⟨#[121]⟩ := by decide
    have e2 : PySem.Str.ofString "z" = ⟨#[122]⟩ := by decide
    by_cases h : ltr f a = 122
    · refine ⟨true, by rw [h, e2]; exact decide_eq_true rfl, ?_⟩
      have : sfx (ltr f a) = 121 := if_pos h
      rw [this] at m3
      rw [if_pos rfl, e1, m3]
    · refine ⟨false, decide_eq_false (by rw [e2]; intro q; injection q with q; exact h (by simpa using q)), ?_⟩
      have : sfx (ltr f a) = 122 := if_neg h
      rw [this] at m3
      rw [if_neg (by decide), e2, m3]
  have nm : NameIs s3 f a := ⟨1 + k, by omega, by omega, by rw [m6, m2, m4]⟩
  clear p1 p2 p3 p4 p5 v1 p6 p7 hb1 hb2 hb hN hL0 hL ha hf hfl m2 m4 m6 m3
  unfold lb_l_table_1
  refine ⟨⟨op, s3, w, if a = 0 then true else decide (r4 = 0)⟩, if a = 0 then b3 else b4, some (.str ⟨#[ltr f a]⟩), some (.str s3), some (.int v), ?_, ?_, rfl, nm, w1, w2, fun h => if_pos h⟩
  · refine seq_nx (e := [some b, some (.int mo), some (.int L), some cD, some (.int M), some oD, some (.lst true found), some (.int f), some (.int a), some (.int op), some (.str ⟨#[ltr f a]⟩), x11, x12]) ?_ ?_
    · clear t1 t2 t3 t4 nm hb3 hb4
      walk_at "ev"
    refine seq_nx (e := [some b1, some (.int mo), some (.int L), some cD, some (.int M), some oD, some (.lst true found), some (.int f), some (.int a), some (.int op), some (.str ⟨#[ltr f a]⟩), some (.str s3), x12]) ?_ ?_
    · clear i1 t2 t3 t4 nm hb3 hb4 w1 w2
      cases z with
      | true =>
        simp only [if_true] at i8
        walk_at "ev"
      | false =>
        simp only [Bool.false_eq_true, if_false] at i8
        walk_at "ev"
    clear i1 t1 i7 i8 m1 m5 i5
    refine seq_nx (e := [some b3, some (.int mo), some (.int L), some cD, some (.int M), some oD, some (.lst true found), some (.int f), some (.int a), some (.int op), some (.str ⟨#[ltr f a]⟩), some (.str s3), some (.int v)]) ?_ ?_
    · clear t4 nm
      walk_at "ev"
    by_cases h0 : a = 0
    · subst h0
      simp only [if_true]
      have e0 : ((0 : Nat) : Int) = 0 := rfl
      have e1 : ∀ d : D, fAppend found [d] = some (.non, found ++ [d]) := fun d => if_pos hS
      unfold Row.d
      clear t2 t3 t4 nm hb3 hb4 w1 w2
      walk_at "ev"
    · simp only [if_neg h0]
      have e0 : ¬ (a : Int) = 0 := by omega
      have e1 : ∀ d : D, fAppend found [d] = some (.non, found ++ [d]) := fun d => if_pos hS
      unfold Row.d
      clear t2 t3 nm hb3 hb4 w1 w2
      walk_at "ev"
  · split
    · exact hb3.mono (by omega)
    · exact hb4.mono (by omega)
end
section
/-! ### the table -/
theorem ix_n {n j : Nat} (h : j < n) : ixN n (j : Int) = some j := by
  unfold ixN
  rw [if_pos (by omega), if_pos (by omega)]
  simp
theorem erase_map {α β : Type} {f : α → β} : ∀ {l : List α} {k : Nat}, (l.map f).eraseIdx k = (l.eraseIdx k).map f
  | [], k => by simp
  | a :: l, 0 => rfl
  | a :: l, k + 1 => by rw [List.map_cons, List.eraseIdx_cons_succ, List.eraseIdx_cons_succ, List.map_cons, erase_map]
theorem pop_n {ds : List D} {k : Nat} (h : k < ds.length) (hs : ds.length < 2 ^ 60) : ∃ d, fPopAt ds [.int (k : Int)] = some (d, ds.eraseIdx k) := by
  refine ⟨ds[k], ?_⟩
  unfold fPopAt
  simp only
  rw [if_pos (by omega), ix_n h]
  simp only
  rw [List.getElem?_eq_getElem h]
abbrev tEnv (b : D) (mo L c M : Nat) (ds : List D) : Env := [some b, some (.int mo), some (.int L), some (.int c), some (.int M), some (.lst true ds), none, none, none, none, none, none, none]
theorem table_while {N mo L c M : Nat} {b : D} (hb : Bx N b) (hN : N ≤ 2 ^ 59) (hc : c ≤ 256) (hM : M ≤ c) :
    ∃ (b' : D) (ops : List Nat), lp_l_table_2 (tEnv b mo L c M ((List.range c).map fun n : Nat => .int n)) = .ok .nx (tEnv b' mo L c M (ops.map fun n : Nat => .int n)) ∧ Bx (N + 256) b' ∧ ops.Sublist (List.range c) ∧ ops.length = M := by
  let Iv : Env → Prop := fun env => ∃ (b' : D) (ops : List Nat) (k : Nat), env = tEnv b' mo L c M (ops.map fun n : Nat => .int n) ∧ Bx (N + k) b' ∧ k + ops.length ≤ c ∧ ops.Sublist (List.range c) ∧ M ≤ ops.length
  let Post : Env → Prop := fun env => ∃ (b' : D) (ops : List Nat), env = tEnv b' mo L c M (ops.map fun n : Nat => .int n) ∧ Bx (N + 256) b' ∧ ops.Sublist (List.range c) ∧ ops.length = M
  have := while_inv (c := bB (e2 fGt (eL fLen (lCons (eV 5) lNil)) (eV 4))) (m := lb_l_table_2) Iv Post (fun env : Env => match env[5]? with | some (some (D.lst _ ds)) => ds.length | _ => 0) (fun env hi => ?_) (env := tEnv b mo L c M ((List.range c).map fun n : Nat => .int n)) ⟨b, List.range c, 0, rfl, hb, by simp, List.Sublist.refl _, by simpa using hM⟩
  · obtain ⟨e, h1, b', ops, rfl, h2, h3, h4⟩ := this
    exact ⟨b', ops, h1, h2, h3, h4⟩
  · obtain ⟨b', ops, k, rfl, h1, h2, h3, h4⟩ := hi
    have el : (ops.map fun n : Nat => D.int (n : Int)).length = ops.length := List.length_map _
    by_cases h : (M : Int) < (ops.length : Int)
    · left
      obtain ⟨r, b2, t1, p1, p2, hb2⟩ := take_spec (m := (ops.length : Int)) h1 (by omega) (by omega) (by omega)
      obtain ⟨j, rfl⟩ := Int.eq_ofNat_of_zero_le p1
      obtain ⟨d, hp⟩ := pop_n (ds := ops.map fun n : Nat => D.int (n : Int)) (k := j) (by simpa using (by omega : j < ops.length)) (by rw [el]; omega)
      refine ⟨tEnv b' mo L c M (ops.map fun n : Nat => .int n), tEnv b2 mo L c M ((ops.map fun n : Nat => D.int (n : Int)).eraseIdx j), ?_, .inl ?_, ⟨b2, ops.eraseIdx j, k + 1, ?_, hb2.mono (by omega), ?_, (List.eraseIdx_sublist ..).trans h3, ?_⟩, ?_⟩
      · clear t1 hp p1 p2
        unfold tEnv
        walk_at "ev"
      · unfold lb_l_table_2 tEnv
        clear p1 p2 h
        walk_at "ev"
      · rw [erase_map]
      · rw [List.length_eraseIdx]; split <;> omega
      · rw [List.length_eraseIdx]; split <;> omega
      · show ((ops.map fun n : Nat => D.int (n : Int)).eraseIdx j).length < (ops.map fun n : Nat => D.int (n : Int)).length
        rw [List.length_eraseIdx, el]; split <;> omega
    · right
      refine ⟨tEnv b' mo L c M (ops.map fun n : Nat => .int n), ?_, b', ops, rfl, h1.mono (by omega), h3, by omega⟩
      unfold tEnv
      walk_at "ev"
theorem table_for {N mo L c M f : Nat} {b : D} {ops : List Nat} (hb : Bx N b) (hN : N ≤ 2 ^ 59) (hf : f < 26) (hL0 : 1 ≤ L) (hL : L ≤ 1000) (ho : ops.length ≤ 256) :
    ∃ (b' : D) (rs : List Row) (x8 x9 x10 x11 x12 : Option D), lp_l_table_1 [some b, some (.int mo), some (.int L), some (.int c), some (.int M), some (.lst true (ops.map fun n : Nat => .int n)), some (.lst true []), some (.int f), none, none, none, none, none] =
      .ok .nx [some b', some (.int mo), some (.int L), some (.int c), some (.int M), some (.lst false (ops.map fun n : Nat => .int n)), some (.lst true (rs.map Row.d)), some (.int f), x8, x9, x10, x11, x12] ∧ Bx (N + 2560) b' ∧ rs.map (·.op) = ops ∧
      (∀ j r, rs[j]? = some r → NameIs r.nm f j) ∧ (∀ r ∈ rs, 1 ≤ r.ln ∧ r.ln ≤ L) ∧ (∀ r, rs[0]? = some r → r.en = true) := by
  generalize hX : (ops.map fun n : Nat => D.int (n : Int)) = X
  let Iv : Nat → Env → Prop := fun i env => ∃ (b' : D) (rs : List Row) (x8 x9 x10 x11 x12 : Option D), env = [some b', some (.int mo), some (.int L), some (.int c), some (.int M), some (.lst false X), some (.lst true (rs.map Row.d)), some (.int f), x8, x9, x10, x11, x12] ∧ Bx (N + 10 * i) b' ∧ rs.map (·.op) = ops.take i ∧
      (∀ j r, rs[j]? = some r → NameIs r.nm f j) ∧ (∀ r ∈ rs, 1 ≤ r.ln ∧ r.ln ≤ L) ∧ (∀ r, rs[0]? = some r → r.en = true)
  have hXl : X.length = ops.length := by rw [← hX]; simp
  have hit : iOf enumD (lCons (eVk 5) lNil) [some b, some (.int mo), some (.int L), some (.int c), some (.int M), some (.lst true X), some (.lst true []), some (.int f), none, none, none, none, none] =
      .ok ((List.range X.length).zipWith (fun (i : Nat) x => D.tup [.int (i : Int), x]) X) [some b, some (.int mo), some (.int L), some (.int c), some (.int M), some (.lst false X), some (.lst true []), some (.int f), none, none, none, none, none] := by
    have z : fzL X = X := by rw [← hX]; exact fz_sameL _ fznL_ints
    clear hb
    walk_at "ev"
  obtain ⟨e', h1, b', rs, x8, x9, x10, x11, x12, rfl, h2, h3, h4, h5, h6⟩ := for_inv (g := gT (gsCons (gN 8) (gsCons (gN 9) gsNil))) (m := lb_l_table_1) ((List.range X.length).zipWith (fun (i : Nat) x => D.tup [.int (i : Int), x]) X) Iv (fun i d env hd hi => by
    obtain ⟨b', rs, x8, x9, x10, x11, x12, rfl, h2, h3, h4, h5, h6⟩ := hi
    rw [List.getElem?_zipWith] at hd
    have hi' : i < ops.length := by
      rcases Nat.lt_or_ge i ops.length with h | h
      · exact h
      · rw [List.getElem?_eq_none (by simpa [hXl] using h)] at hd
        simp at hd
    have hop : X[i]? = some (.int (ops[i] : Nat)) := by rw [← hX, List.getElem?_map, List.getElem?_eq_getElem hi']; rfl
    rw [List.getElem?_range (by rw [hXl]; exact hi'), hop] at hd
    cases hd
    have hrl : rs.length = i := by
      have := congrArg List.length h3
      simp at this
      omega
    obtain ⟨r, b2, y10, y11, y12, q1, q2, q3, q4, q5, q6, q7⟩ := row_step (N := N + 10 * i) (f := f) (a := i) (op := ops[i]) (L := L) (M := M) (cD := .int c) (oD := .lst false X) (mo := mo) (found := rs.map Row.d) (x10 := x10) (x11 := x11) (x12 := x12) h2 (by omega) hL0 hL (by omega) hf (by simp; omega)
    refine ⟨_, _, rfl, .inl q1, b2, rs ++ [r], some (.int (i : Nat)), some (.int (ops[i] : Nat)), y10, y11, y12, ?_, q2.mono (by omega), ?_, ?_, ?_, ?_⟩
    · rw [List.map_append]; rfl
    · rw [List.map_append, h3, List.map_cons, List.map_nil, q3]
      exact (List.take_append_getElem hi')
    · intro j s hs
      rw [List.getElem?_append] at hs
      split at hs
      · exact h4 j s hs
      · have : j - rs.length = 0 := by
          rcases Nat.eq_zero_or_pos (j - rs.length) with h | h
          · exact h
          · rw [List.getElem?_eq_none (by simp; omega)] at hs; cases hs
        rw [this] at hs
        cases hs
        rw [show j = i by omega]
        exact q4
    · intro s hs
      rcases List.mem_append.mp hs with hs | hs
      · exact h5 s hs
      · rw [List.mem_singleton.mp hs]; exact ⟨q5, q6⟩
    · intro s hs
      rw [List.getElem?_append] at hs
      split at hs
      · exact h6 s hs
      · rename_i hh
        have : i = 0 := by omega
        rw [hrl, this] at hs
        cases hs
        exact q7 this) (env := [some b, some (.int mo), some (.int L), some (.int c), some (.int M), some (.lst false X), some (.lst true []), some (.int f), none, none, none, none, none]) ⟨b, [], none, none, none, none, none, rfl, hb, by simp, by simp, by simp, by simp⟩
  have hzl : ((List.range X.length).zipWith (fun (i : Nat) x => D.tup [.int (i : Int), x]) X).length = ops.length := by
    rw [List.length_zipWith, List.length_range, hXl]; omega
  rw [hzl] at h2 h3
  refine ⟨b', rs, x8, x9, x10, x11, x12, ?_, h2.mono (by omega), by rw [h3, List.take_length], h4, h5, h6⟩
  unfold lp_l_table_1
  rw [v_for, hit, b_bo, h1]
theorem table_spec {N mo L : Nat} {b : D} (hb : Bx N b) (hN : N ≤ 2 ^ 58) (h1 : 2 ≤ mo) (h2 : mo ≤ 256) (hL0 : 1 ≤ L) (hL : L ≤ 1000) :
    ∃ (c : Nat) (rs : List Row) (b' : D), m_l_table [b, .int mo, .int L] = .ok (tabD c rs) [b'] ∧ TabOk c L rs ∧ c ≤ mo ∧ Bx (N + 3000) b' ∧ (∀ r, rs[0]? = some r → r.en = true) := by
  have hN2 : N + 1 + 1 ≤ 2 ^ 59 := by omega
  have hN4 : N + 1 + 1 + 256 + 1 ≤ 2 ^ 59 := by omega
  obtain ⟨r1, b1, t1, p1, p2, hb1⟩ := take_spec (m := (mo : Int) - 1) hb (by omega) (by omega) (by omega)
  obtain ⟨k, rfl⟩ := Int.eq_ofNat_of_zero_le p1
  obtain ⟨c, hc⟩ : ∃ c, c = 2 + k := ⟨_, rfl⟩
  have ec : (2 : Int) + (k : Int) = (c : Int) := by omega
  have c2 : 2 ≤ c := by omega
  have cm : c ≤ mo := by omega
  clear hc p1 p2
  obtain ⟨u, hu, u1, u2, u3⟩ : ∃ u : Nat, fMin2 [.int 6, .int (c : Int)] = some (.int u) ∧ 1 ≤ u ∧ u ≤ 6 ∧ u ≤ c := by
    by_cases h : (c : Int) < 6
    · exact ⟨c, by simp only [fMin2, h, if_true], by omega, by omega, by omega⟩
    · exact ⟨6, by simp only [fMin2, h, if_false]; rfl, by omega, by omega, by omega⟩
  obtain ⟨r2, b2, t2, p3, p4, hb2⟩ := take_spec (m := (u : Int)) hb1 (by omega) (by omega) (by omega)
  obtain ⟨j, rfl⟩ := Int.eq_ofNat_of_zero_le p3
  obtain ⟨M, hM, hM1, hMc⟩ : ∃ M : Nat, M = (if 12 < c ∧ c % 7 = 3 then 7 + c / 4 else 1 + j) ∧ 1 ≤ M ∧ M ≤ c := by
    refine ⟨_, rfl, ?_, ?_⟩
    · split <;> omega
    · split <;> omega
  obtain ⟨b3, ops, hw, hb3, ho1, ho2⟩ := table_while (mo := mo) (L := L) (c := c) (M := M) hb2 hN2 (by omega) hMc
  obtain ⟨r3, b4, t3, p5, p6, hb4⟩ := take_spec (m := 26) hb3 (by omega) (by omega) (by omega)
  obtain ⟨f, rfl⟩ := Int.eq_ofNat_of_zero_le p5
  obtain ⟨b5, rs, x8, x9, x10, x11, x12, hfo, hb5, q1, q2, q3, q4⟩ := table_for (mo := mo) (c := c) (M := M) (f := f) (ops := ops) hb4 hN4 (by omega) hL0 hL (by omega)
  have hrl : rs.length = M := by rw [← ho2, ← q1]; simp
  refine ⟨c, rs, b5, ?_, ⟨by omega, by omega, fun h => ?_, by omega, fun r hr => ?_, ?_, ?_⟩, by omega, hb5.mono (by omega), q4⟩
  · have rg : rgL 0 (c : Int) = (List.range c).map fun n : Nat => D.int (n : Int) := by
      unfold rgL
      simp
    have rk : rgOk 0 (c : Int) = true := by
      unfold rgOk
      exact decide_eq_true ⟨by omega, by omega, by omega, by omega, by omega⟩
    have z1 := fznL_rows rs
    clear q1 q2 q3 q4 hb hb1 hb2 hb3 hb4 hb5 ho1 ho2 hrl u1 u2 u3 p3 p4 hM1 hMc p5 p6 hN h1 h2 hL0 hL c2 cm
    unfold m_l_table b_l_table
    rw [v_fn]
    walk_at "env"
    refine fin_seq (e := [some b1, some (.int mo), some (.int L), some (.int c), none, none, none, none, none, none, none, none, none]) ?_ ?_
    · walk_at "ev"
    refine fin_seq (e := [some b2, some (.int mo), some (.int L), some (.int c), some (.int (1 + (j : Int))), some (.lst true ((List.range c).map fun n : Nat => .int n)), none, none, none, none, none, none, none]) ?_ ?_
    · walk_at "ev"
    refine fin_seq (e := tEnv b2 mo L c M ((List.range c).map fun n : Nat => .int n)) ?_ ?_
    · have k7 : (0 : Int) < 7 := by decide
      have k4 : (0 : Int) < 4 := by decide
      have l4 : (4 : Int).natAbs.log2 < 9000 := by decide +kernel
      unfold tEnv
      by_cases g1 : (12 : Int) < (c : Int)
      · by_cases g2 : (c : Int) % 7 = 3
        · have e : (7 : Int) + (c : Int) / 4 = (M : Int) := by rw [hM, if_pos (by omega)]; omega
          clear hw hfo hM
          walk_at "ev"
        · have e : (M : Int) = 1 + (j : Int) := by rw [hM, if_neg (by omega)]; omega
          clear hw hfo hM
          walk_at "ev"
      · have e : (M : Int) = 1 + (j : Int) := by rw [hM, if_neg (by omega)]; omega
        clear hw hfo hM
        walk_at "ev"
    refine fin_seq hw ?_
    refine fin_seq (e := [some b4, some (.int mo), some (.int L), some (.int c), some (.int M), some (.lst true (ops.map fun n : Nat => .int n)), some (.lst true []), some (.int f), none, none, none, none, none]) ?_ ?_
    · unfold tEnv
      clear hw hfo hM
      walk_at "ev"
    refine fin_seq hfo ?_
    unfold tabD
    clear hw hfo hM
    walk_at "ev"
  · rw [h] at hrl; simp at hrl; omega
  · obtain ⟨j, hj⟩ := List.getElem?_of_mem hr
    have hjl : j < rs.length := by
      rcases Nat.lt_or_ge j rs.length with g | g
      · exact g
      · rw [List.getElem?_eq_none g] at hj; cases hj
    have hm : r.op ∈ ops := by rw [← q1]; exact List.mem_map.mpr ⟨r, hr, rfl⟩
    have := ho1.subset hm
    refine ⟨by simpa using this, (q2 j r hj).ok ?_, (q3 r hr).1, (q3 r hr).2⟩
    rw [hrl, hM] at hjl
    split at hjl <;> omega
  · rw [← List.pairwise_map (f := fun r : Row => r.op) (R := fun a b => a < b), q1]
    exact List.Pairwise.sublist ho1 List.pairwise_lt_range
  · unfold List.Nodup
    rw [List.pairwise_iff_getElem]
    intro i j hi hj hij e
    simp at hi hj e
    have := (q2 i rs[i] (List.getElem?_eq_getElem hi))
    rw [e] at this
    have := this.inj (q2 j rs[j] (List.getElem?_eq_getElem hj))
    omega
end
section
/-! ### bytes, the small table -/
theorem bytes_spec {N c L n : Nat} {b : D} {rs : List Row} (h : TabOk c L rs) (hb : Bx N b) (hN : N ≤ 2 ^ 59) (hn : n ≤ 1000) :
    ∃ (code : List Nat) (b' : D), m_l_bytes [b, tabD c rs, .int n] = .ok (.tup (code.map fun x : Nat => .int x)) [b'] ∧ code.length = n ∧ (∀ x ∈ code, x < c) ∧ Bx (N + 2 * n) b' := by
  have hl : rs.length ≤ 256 := Nat.le_trans h.len h.hi
  have hs : rs.length ≤ sizeLine := Nat.le_trans hl (by decide)
  have z1 := fznL_rows rs
  have z2 := seq_rows rs
  have z3 : fznL (rs.map fun r => D.int r.op) = true := fznL_ints
  have z4 : fzL (rs.map fun r => D.int r.op) = rs.map fun r => D.int r.op := fz_sameL _ z3
  have hc2 : cp_l_bytes_2 [some b, some (tabD c rs), some (.int n), none, none, none] = .ok (.lst true (rs.map fun r => .int r.op)) [some b, some (tabD c rs), some (.int n), none, none, none] := by
    unfold cp_l_bytes_2
    refine eLc_map rs Row.d _ (e := [some b, some (tabD c rs), some (.int n), none, none, none]) ?_ rfl hs fun r hr => ⟨[some b, some (tabD c rs), some (.int n), none, some r.d, none], rfl, ?_, rfl⟩
    · unfold tabD
      clear hb hN hn h
      walk_at "ev"
    · unfold ce_l_bytes_2 Row.d
      clear hb hN hn h
      walk_at "ev"
  have step : ∀ (M : Nat) (b : D) (o : Bool) (i : Nat), Bx M b → M ≤ 2 ^ 59 + 2 ^ 58 → ∃ (x : Nat) (o' : Bool) (b' : D), ce_l_bytes_1 [some b, some (tabD c rs), some (.int n), some (.lst o (rs.map fun r => .int r.op)), none, some (.int i)] =
      .ok (.int x) [some b', some (tabD c rs), some (.int n), some (.lst o' (rs.map fun r => .int r.op)), none, some (.int i)] ∧ x < c ∧ Bx (M + 2) b' := by
    intro M b o i hb hM
    obtain ⟨r1, b1, t1, p1, p2, hb1⟩ := take_spec (m := 4) hb (by omega) (by omega) (by omega)
    unfold ce_l_bytes_1
    by_cases g : 0 < r1
    · obtain ⟨x, b2, t2, p3, hb2⟩ := of_spec (xs := rs.map fun r => D.int r.op) hb1 (by omega) (.inl rfl) (by simpa using h.ne) (by simp; omega) z3
      obtain ⟨r, hr, rfl⟩ := List.mem_map.mp p3
      refine ⟨r.op, false, b2, ?_, (h.row r hr).op, hb2⟩
      clear hb hb1 hb2 hM p1 p2 p3 hc2 h hN hn hl hs
      cases o with
      | true => walk_at "ev"
      | false => walk_at "ev"
    · have h2 := h.lo
      have h3 := h.hi
      obtain ⟨x, b2, t2, p3, p4, hb2⟩ := take_spec (m := (c : Int)) hb1 (by omega) (by omega) (by omega)
      obtain ⟨x, rfl⟩ := Int.eq_ofNat_of_zero_le p3
      refine ⟨x, o, b2, ?_, by omega, hb2⟩
      clear hb hb1 hb2 hM p1 p2 p3 p4 hc2 h hN hn hl hs h2 h3
      unfold tabD
      walk_at "ev"
  obtain ⟨r, e', k1, k2⟩ := eLc_inv (it := iOf rng1 (lCons (eV 2) lNil)) (g := gN 5) (m := ce_l_bytes_1) (ws := [5]) (env := [some b, some (tabD c rs), some (.int n), some (.lst true (rs.map fun r => .int r.op)), none, none]) (e := [some b, some (tabD c rs), some (.int n), some (.lst true (rs.map fun r => .int r.op)), none, none])
    (ds := (List.range n).map fun k : Nat => .int (k : Int)) (by
      have := rng1_n (j := n) (by omega)
      clear hc2 step hb hN hn h hl hs
      walk_at "ev") (by simp; exact Nat.le_trans hn (by decide))
    (fun i acc env => ∃ (b' : D) (o : Bool) (code : List Nat), env = [some b', some (tabD c rs), some (.int n), some (.lst o (rs.map fun r => .int r.op)), none, none] ∧ acc = code.map (fun x : Nat => .int x) ∧ code.length = i ∧ (∀ x ∈ code, x < c) ∧ Bx (N + 2 * i) b')
    ⟨b, true, [], rfl, rfl, rfl, by simp, hb⟩ (by
      rintro i d acc _ hd ⟨b', o, code, rfl, rfl, q1, q2, q3⟩
      have hi : i < n := by
        rcases Nat.lt_or_ge i n with g | g
        · exact g
        · rw [List.getElem?_eq_none (by simpa using g)] at hd; cases hd
      rw [List.getElem?_map, List.getElem?_range hi] at hd
      cases hd
      obtain ⟨x, o', b2, w1, w2, w3⟩ := step (N + 2 * i) b' o i q3 (by omega)
      refine ⟨_, _, _, rfl, w1, b2, o', code ++ [x], rfl, by simp, by simp [q1], ?_, w3⟩
      intro y hy
      rcases List.mem_append.mp hy with hy | hy
      · exact q2 y hy
      · rw [List.mem_singleton.mp hy]; exact w2)
  obtain ⟨b', o, code, rfl, rfl, q1, q2, q3⟩ := k2
  simp only [List.length_map, List.length_range] at q1 q3
  refine ⟨code, b', ?_, q1, q2, q3⟩
  have k3 : cp_l_bytes_1 [some b, some (tabD c rs), some (.int n), some (.lst true (rs.map fun r => .int r.op)), none, none] = _ := k1
  have z5 : fznL (code.map fun x : Nat => D.int x) = true := fznL_ints
  clear k1 q1 q2 q3 step hb hN hn h hl hs
  unfold m_l_bytes b_l_bytes
  rw [v_fn]
  walk_at "ev"
end
section
/-! ### further steps -/
def parOk (ds : List D) (is : List Nat) : Bool := decide (ds.length = is.length ∧ ds.length ≤ sizeLine)
theorem v_parN {is : List Nat} {ms : ML} {env : Env} : sParN is ms env = (ms env).bindL (fun ds e => R.ite (parOk ds is) (fun _ => .ok .nx (setsE e is ds)) (fun _ => .no) () ()) () := by
  simp only [R.bindL]
  unfold sParN parOk
  congr 1; funext ds e
  by_cases h : ds.length = is.length ∧ ds.length ≤ sizeLine
  · rw [if_pos h, decide_eq_true h]; rfl
  · rw [if_neg h, decide_eq_false h]; rfl
theorem po2 {a b : D} {i j : Nat} : parOk [a, b] [i, j] = true := decide_eq_true ⟨rfl, sz2⟩
theorem po3 {a b c : D} {i j k : Nat} : parOk [a, b, c] [i, j, k] = true := decide_eq_true ⟨rfl, sz3⟩
theorem po4 {a b c d : D} {i j k l : Nat} : parOk [a, b, c, d] [i, j, k, l] = true := decide_eq_true ⟨rfl, sz4⟩
theorem se_n {env : Env} : setsE env [] [] = env := nrfl rfl
theorem se_c {env : Env} {i : Nat} {is : List Nat} {d : D} {ds : List D} : setsE env (i :: is) (d :: ds) = setsE (env.set i (some d)) is ds := nrfl rfl
theorem v_gUL {gs : MGs} {o : Bool} {ds : List D} {env : Env} : gUL gs (.lst o ds) env = if fznL ds then gs ds env else none := nrfl rfl
theorem v_dnew {env : Env} : eDNew env = .ok (.dct true []) env := nrfl rfl
theorem fi2_i {g : Int → Int → Option D} {a b : Int} : fI2 g (.int a) (.int b) = g a b := nrfl rfl
theorem gdiv_i {a b : Int} : gDiv a b = if 0 < b ∧ b.natAbs.log2 < 9000 then some (.int (a / b)) else none := nrfl rfl
end
section
/-! ### loops that may return -/
theorem gadd_i {a b : Int} : gAdd a b = some (.int (a + b)) := nrfl rfl
end
section
/-! ### maps of codes: what both compute -/
def oI : Option Nat → D
  | none => .non
  | some n => .int n
/-! ### the law's map -/
theorem fzn_tab {c : Nat} {rs : List Row} : fzn (tabD c rs) = true := by
  unfold tabD
  rw [fzn_5, fznL_c, fznL_c, fzn_5, fznL_rows]
  rfl
theorem fznL_code {code : List Nat} : fznL (code.map fun x : Nat => D.int x) = true := fznL_ints
/-! ### the program's map -/
/-! ### repr -/
theorem repr_ok {d : D} {p : PyData} {n : Nat} (h : toPy d = some p) (h1 : plainD n p = true) (hn : n ≤ 60) (hs : p.showable = true) (hw : wt p ≤ 8000) : fRepr [d] = some (.str p.shown) := by
  obtain ⟨h2, h3⟩ := shows h1 hn hs hw
  unfold fRepr
  simp only [h, hs, decide_eq_true h2, decide_eq_true h3, Bool.and_self, if_true]
end
end Mi
set_option maxHeartbeats 4000000
set_option exponentiation.threshold 100000
namespace Mi
open PySem PySem.Spec PyProof.Rows L2 RZ Ov PpSet
local macro_rules | `(tactic| walk_at "ev") => `(tactic| simp -dsimp only [*, b_bo, b_b0, v_bo, v_b0, v_c, v_v, v_mv, v_vk, v_k, v_fk, v_nil, v_cons, v_1, v_2, v_L, v_bB, asB_b, v_bAnd, v_bOr, v_bNot, v_bYes, v_if, v_and, v_or, v_not, v_tup, v_lst, v_fld, asI_i, v_oN, v_oS, optI_i, v_sl, v_rg1, v_rg2, v_lrg, v_trg, chainK_b, v_chain,
  Fl.k_nx, Fl.k_rt, Fl.k_bk, Fl.k_ct, v_seq, v_pass, v_bk, v_ct, v_ret, v_retN, v_expr, v_sif, v_asg, optE_s, v_gN, v_gT, v_gsN, v_gsC, Option.bind_some, v_par, v_par3, v_aug, v_put, v_sfld, v_for, optL_s, v_iSeq, v_iOf, v_iStr, v_lc, v_mList, Rf.back_ok, optP_s, v_callF, v_call, v_aN, v_aE, v_aI, v_fN, v_fE, v_fI, optD_s, Option.map_some,
  v_kN, v_kE, v_kI, v_methE, v_methI, Rf.newB_ok, v_new, fin_rt, fin_nx, getR_s, liftK_s, R.ite_t, R.ite_f, List.getElem?_cons_zero, List.getElem?_cons_succ, List.set_cons_zero, List.set_cons_succ, List.map_cons, List.map_nil, List.cons_append, List.nil_append, List.replicate_succ, List.replicate_zero, k2_s, k3_s, insK_s, strK_s, mlK_s, optF_s, joinO_s, v_gp, v_gq, fldO_s, v_gf, setO_s, v_gs, optR_s, al_n, al_c, pi_t, pi_f, pi_n, wi_n, wi_c,
  add_i, sub_i, mod_i, div_i, pow_60, pow_18, lt_i, le_i, gt_i, ge_i, mul_i, is_n, nis_n, is_i, nis_i, is_t, nis_t, ix_t, ix_l, ix_s, set0, set1, set2, len_t, len_l, len_s, abs_i, int_i, int_b, sl_l, sl_t, fz_l, fz_t, fz_d, fz_i, seq_t, seq_l, zip_l, zip_t, enum_l, tuple_l, tuple_t, list_l, list_t, neg_i, isa_isInt_non, isa_isInt_bl, isa_isInt_int, isa_isInt_str, isa_isInt_tup, isa_isInt_lst, isa_isInt_scr, isa_isInt_dct, isa_isBool_non, isa_isBool_bl, isa_isBool_int, isa_isBool_str, isa_isBool_tup, isa_isBool_lst, isa_isBool_scr, isa_isBool_dct, isa_isStr_non, isa_isStr_bl, isa_isStr_int, isa_isStr_str, isa_isStr_tup, isa_isStr_lst, isa_isStr_scr, isa_isStr_dct, isa_isTuple_non, isa_isTuple_bl, isa_isTuple_int, isa_isTuple_str, isa_isTuple_tup, isa_isTuple_lst, isa_isTuple_scr, isa_isTuple_dct, isa_isList_non, isa_isList_bl, isa_isList_int, isa_isList_str, isa_isList_tup, isa_isList_lst, isa_isList_scr, isa_isList_dct, isa_isDict_non, isa_isDict_bl, isa_isDict_int, isa_isDict_str, isa_isDict_tup, isa_isDict_lst, isa_isDict_scr, isa_isDict_dct, eq_i, ne_i, eq_s, ne_s, fzn_1, fzn_2, fzn_3, fzn_4, fzn_5, fzn_6, fzn_7, fzn_8, fzn_9, fzn_s, fznL_n, fznL_c, fznK_n, fznK_c, fznF_n, fznF_c, sz0, sz1, sz2, sz3, sz4, sz5, sz6, sz7, sz8, pk1, pk2, pk3, pk4, fzL_n, fzL_c, fz_int, fz_bl, fz_str, fz_non, putD_n, putD_c, at0, at1, at2, at3, ix0, ix1, ix2, Bool.not_true, Bool.not_false, Bool.true_and, Bool.and_true, Bool.false_and, Bool.and_false, Bool.or_true, Bool.true_or, Bool.false_or, Bool.or_false, if_true, if_false, Bool.false_eq_true, decide_true, decide_false, and_self, and_true, true_and, not_true_eq_false, not_false_eq_true, ne_eq, false_and, and_false, eq_self])
local macro_rules | `(tactic| walk_at "env") => `(tactic| simp only [List.map_cons, List.map_nil, List.cons_append, List.nil_append, List.replicate_succ, List.replicate_zero])
local macro_rules | `(tactic| walk_at "ew") => `(tactic| simp -dsimp only [*, b_bo, b_b0, v_bo, v_b0, v_c, v_v, v_mv, v_vk, v_k, v_fk, v_nil, v_cons, v_1, v_2, v_L, v_bB, asB_b, v_bAnd, v_bOr, v_bNot, v_bYes, v_if, v_and, v_or, v_not, v_tup, v_lst, v_fld, asI_i, v_oN, v_oS, optI_i, v_sl, v_rg1, v_rg2, v_lrg, v_trg, chainK_b, v_chain,
  Fl.k_nx, Fl.k_rt, Fl.k_bk, Fl.k_ct, v_seq, v_pass, v_bk, v_ct, v_ret, v_retN, v_expr, v_sif, v_asg, optE_s, v_gN, v_gT, v_gsN, v_gsC, Option.bind_some, v_par, v_par3, v_aug, v_put, v_sfld, v_for, optL_s, v_iSeq, v_iOf, v_iStr, v_lc, v_mList, Rf.back_ok, optP_s, v_callF, v_call, v_aN, v_aE, v_aI, v_fN, v_fE, v_fI, optD_s, Option.map_some,
  v_kN, v_kE, v_kI, v_methE, v_methI, Rf.newB_ok, v_new, fin_rt, fin_nx, getR_s, liftK_s, R.ite_t, R.ite_f, List.getElem?_cons_zero, List.getElem?_cons_succ, List.set_cons_zero, List.set_cons_succ, List.map_cons, List.map_nil, List.cons_append, List.nil_append, List.replicate_succ, List.replicate_zero, k2_s, k3_s, insK_s, strK_s, mlK_s, optF_s, joinO_s, v_gp, v_gq, fldO_s, v_gf, setO_s, v_gs, optR_s, al_n, al_c, pi_t, pi_f, pi_n, wi_n, wi_c,
  add_i, sub_i, mod_i, div_i, pow_60, pow_18, lt_i, le_i, gt_i, ge_i, mul_i, is_n, nis_n, is_i, nis_i, is_t, nis_t, ix_t, ix_l, ix_s, set0, set1, set2, len_t, len_l, len_s, abs_i, int_i, int_b, sl_l, sl_t, fz_l, fz_t, fz_d, fz_i, seq_t, seq_l, zip_l, zip_t, enum_l, tuple_l, tuple_t, list_l, list_t, neg_i, isa_isInt_non, isa_isInt_bl, isa_isInt_int, isa_isInt_str, isa_isInt_tup, isa_isInt_lst, isa_isInt_scr, isa_isInt_dct, isa_isBool_non, isa_isBool_bl, isa_isBool_int, isa_isBool_str, isa_isBool_tup, isa_isBool_lst, isa_isBool_scr, isa_isBool_dct, isa_isStr_non, isa_isStr_bl, isa_isStr_int, isa_isStr_str, isa_isStr_tup, isa_isStr_lst, isa_isStr_scr, isa_isStr_dct, isa_isTuple_non, isa_isTuple_bl, isa_isTuple_int, isa_isTuple_str, isa_isTuple_tup, isa_isTuple_lst, isa_isTuple_scr, isa_isTuple_dct, isa_isList_non, isa_isList_bl, isa_isList_int, isa_isList_str, isa_isList_tup, isa_isList_lst, isa_isList_scr, isa_isList_dct, isa_isDict_non, isa_isDict_bl, isa_isDict_int, isa_isDict_str, isa_isDict_tup, isa_isDict_lst, isa_isDict_scr, isa_isDict_dct, eq_i, ne_i, eq_s, ne_s, fzn_1, fzn_2, fzn_3, fzn_4, fzn_5, fzn_6, fzn_7, fzn_8, fzn_9, fzn_s, fznL_n, fznL_c, fznK_n, fznK_c, fznF_n, fznF_c, sz0, sz1, sz2, sz3, sz4, sz5, sz6, sz7, sz8, pk1, pk2, pk3, pk4, fzL_n, fzL_c, fz_int, fz_bl, fz_str, fz_non, putD_n, putD_c, at0, at1, at2, at3, ix0, ix1, ix2, Bool.not_true, Bool.not_false, Bool.true_and, Bool.and_true, Bool.false_and, Bool.and_false, Bool.or_true, Bool.true_or, Bool.false_or, Bool.or_false, if_true, if_false, Bool.false_eq_true, decide_true, decide_false, and_self, and_true, true_and, not_true_eq_false, not_false_eq_true, ne_eq, false_and, and_false, eq_self, v_parN, po2, po3, po4, se_n, se_c, v_gUL, v_dnew, fi2_i, gdiv_i])
section
/-! ### maps as functions -/
abbrev MF := Nat → Option Nat × Nat
def oF (f g : MF) : MF := fun q => match (f q).1 with | none => (none, (f q).2) | some k => ((g k).1, (f q).2 + (g k).2)
def eF : MF := fun q => (some q, 0)
def powF (f : MF) : Nat → MF
  | 0 => eF
  | n + 1 => oF f (powF f n)
end
section
/-! ### along the countdowns, circles at once -/
theorem nodup_le : ∀ (L : Nat) (l : List Nat), l.Nodup → (∀ x ∈ l, x < L) → l.length ≤ L
  | 0, l, _, h => by
    cases l with
    | nil => exact Nat.le_refl _
    | cons a l => exact absurd (h a (List.mem_cons_self ..)) (by omega)
  | L + 1, l, hn, h => by
    have h1 := nodup_le L (l.erase L) (hn.erase L) fun x hx => by
      have h2 := h x (List.mem_of_mem_erase hx)
      have h3 : x ≠ L := fun e => by
        subst e
        exact (List.Nodup.not_mem_erase hn) hx
      omega
    have := List.length_erase (a := L) (l := l)
    split at this <;> omega
theorem find_none {kn : List (Nat × Nat × Nat)} {h : Nat} (e : (kn.find? fun e => decide (e.1 = h)) = none) : ∀ x ∈ kn, x.1 ≠ h := fun x hx => by
  have := List.find?_eq_none.mp e x hx
  simpa using this
structure KnOk (f : MF) (q L t : Nat) (kn : List (Nat × Nat × Nat)) : Prop where
  nd : (kn.map (·.1)).Nodup
  at_ : ∀ e ∈ kn, e.2.1 < t ∧ powF f e.2.1 q = (some e.1, e.2.2) ∧ e.1 < L
theorem KnOk.len {f : MF} {q L t : Nat} {kn : List (Nat × Nat × Nat)} (h : KnOk f q L t kn) : kn.length ≤ L := by
  have := nodup_le L (kn.map (·.1)) h.nd fun x hx => by
    obtain ⟨e, he, rfl⟩ := List.mem_map.mp hx
    exact (h.at_ e he).2.2
  simpa using this
theorem KnOk.add {f : MF} {q L t h c : Nat} {kn : List (Nat × Nat × Nat)} (k : KnOk f q L t kn) (e : (kn.find? fun e => decide (e.1 = h)) = none) (h0 : powF f t q = (some h, c)) (hh : h < L) : KnOk f q L (t + 1) (kn ++ [(h, t, c)]) := by
  refine ⟨?_, fun x hx => ?_⟩
  · rw [List.map_append, List.nodup_append]
    refine ⟨k.nd, by simp, fun a ha b hb => ?_⟩
    obtain ⟨x, hx, rfl⟩ := List.mem_map.mp ha
    simp only [List.map_cons, List.map_nil, List.mem_singleton] at hb
    subst hb
    exact find_none e x hx
  · rcases List.mem_append.mp hx with hx | hx
    · have := k.at_ x hx
      exact ⟨by omega, this.2⟩
    · rw [List.mem_singleton.mp hx]
      exact ⟨by simp, h0, hh⟩
end
section
/-! ### repr of maps -/
def cd (code : List Nat) : D := .tup (code.map fun x : Nat => .int x)
theorem fzn_cd {a : List Nat} : fzn (cd a) = true := by
  unfold cd
  rw [fzn_5]
  exact fznL_code
/-! ### the law -/
end
end Mi
set_option maxHeartbeats 4000000
set_option exponentiation.threshold 100000
namespace Mi
open PySem PySem.Spec PyProof.Rows L2 RZ Ov PpSet
local macro_rules | `(tactic| walk_at "ev") => `(tactic| simp -dsimp only [*, b_bo, b_b0, v_bo, v_b0, v_c, v_v, v_mv, v_vk, v_k, v_fk, v_nil, v_cons, v_1, v_2, v_L, v_bB, asB_b, v_bAnd, v_bOr, v_bNot, v_bYes, v_if, v_and, v_or, v_not, v_tup, v_lst, v_fld, asI_i, v_oN, v_oS, optI_i, v_sl, v_rg1, v_rg2, v_lrg, v_trg, chainK_b, v_chain,
  Fl.k_nx, Fl.k_rt, Fl.k_bk, Fl.k_ct, v_seq, v_pass, v_bk, v_ct, v_ret, v_retN, v_expr, v_sif, v_asg, optE_s, v_gN, v_gT, v_gsN, v_gsC, Option.bind_some, v_par, v_par3, v_aug, v_put, v_sfld, v_for, optL_s, v_iSeq, v_iOf, v_iStr, v_lc, v_mList, Rf.back_ok, optP_s, v_callF, v_call, v_aN, v_aE, v_aI, v_fN, v_fE, v_fI, optD_s, Option.map_some,
  v_kN, v_kE, v_kI, v_methE, v_methI, Rf.newB_ok, v_new, fin_rt, fin_nx, getR_s, liftK_s, R.ite_t, R.ite_f, List.getElem?_cons_zero, List.getElem?_cons_succ, List.set_cons_zero, List.set_cons_succ, List.map_cons, List.map_nil, List.cons_append, List.nil_append, List.replicate_succ, List.replicate_zero, k2_s, k3_s, insK_s, strK_s, mlK_s, optF_s, joinO_s, v_gp, v_gq, fldO_s, v_gf, setO_s, v_gs, optR_s, al_n, al_c, pi_t, pi_f, pi_n, wi_n, wi_c,
  add_i, sub_i, mod_i, div_i, pow_60, pow_18, lt_i, le_i, gt_i, ge_i, mul_i, is_n, nis_n, is_i, nis_i, is_t, nis_t, ix_t, ix_l, ix_s, set0, set1, set2, len_t, len_l, len_s, abs_i, int_i, int_b, sl_l, sl_t, fz_l, fz_t, fz_d, fz_i, seq_t, seq_l, zip_l, zip_t, enum_l, tuple_l, tuple_t, list_l, list_t, neg_i, isa_isInt_non, isa_isInt_bl, isa_isInt_int, isa_isInt_str, isa_isInt_tup, isa_isInt_lst, isa_isInt_scr, isa_isInt_dct, isa_isBool_non, isa_isBool_bl, isa_isBool_int, isa_isBool_str, isa_isBool_tup, isa_isBool_lst, isa_isBool_scr, isa_isBool_dct, isa_isStr_non, isa_isStr_bl, isa_isStr_int, isa_isStr_str, isa_isStr_tup, isa_isStr_lst, isa_isStr_scr, isa_isStr_dct, isa_isTuple_non, isa_isTuple_bl, isa_isTuple_int, isa_isTuple_str, isa_isTuple_tup, isa_isTuple_lst, isa_isTuple_scr, isa_isTuple_dct, isa_isList_non, isa_isList_bl, isa_isList_int, isa_isList_str, isa_isList_tup, isa_isList_lst, isa_isList_scr, isa_isList_dct, isa_isDict_non, isa_isDict_bl, isa_isDict_int, isa_isDict_str, isa_isDict_tup, isa_isDict_lst, isa_isDict_scr, isa_isDict_dct, eq_i, ne_i, eq_s, ne_s, fzn_1, fzn_2, fzn_3, fzn_4, fzn_5, fzn_6, fzn_7, fzn_8, fzn_9, fzn_s, fznL_n, fznL_c, fznK_n, fznK_c, fznF_n, fznF_c, sz0, sz1, sz2, sz3, sz4, sz5, sz6, sz7, sz8, pk1, pk2, pk3, pk4, fzL_n, fzL_c, fz_int, fz_bl, fz_str, fz_non, putD_n, putD_c, at0, at1, at2, at3, ix0, ix1, ix2, Bool.not_true, Bool.not_false, Bool.true_and, Bool.and_true, Bool.false_and, Bool.and_false, Bool.or_true, Bool.true_or, Bool.false_or, Bool.or_false, if_true, if_false, Bool.false_eq_true, decide_true, decide_false, and_self, and_true, true_and, not_true_eq_false, not_false_eq_true, ne_eq, false_and, and_false, eq_self])
local macro_rules | `(tactic| walk_at "env") => `(tactic| simp only [List.map_cons, List.map_nil, List.cons_append, List.nil_append, List.replicate_succ, List.replicate_zero])
local macro_rules | `(tactic| walk_at "ew") => `(tactic| simp -dsimp only [*, b_bo, b_b0, v_bo, v_b0, v_c, v_v, v_mv, v_vk, v_k, v_fk, v_nil, v_cons, v_1, v_2, v_L, v_bB, asB_b, v_bAnd, v_bOr, v_bNot, v_bYes, v_if, v_and, v_or, v_not, v_tup, v_lst, v_fld, asI_i, v_oN, v_oS, optI_i, v_sl, v_rg1, v_rg2, v_lrg, v_trg, chainK_b, v_chain,
  Fl.k_nx, Fl.k_rt, Fl.k_bk, Fl.k_ct, v_seq, v_pass, v_bk, v_ct, v_ret, v_retN, v_expr, v_sif, v_asg, optE_s, v_gN, v_gT, v_gsN, v_gsC, Option.bind_some, v_par, v_par3, v_aug, v_put, v_sfld, v_for, optL_s, v_iSeq, v_iOf, v_iStr, v_lc, v_mList, Rf.back_ok, optP_s, v_callF, v_call, v_aN, v_aE, v_aI, v_fN, v_fE, v_fI, optD_s, Option.map_some,
  v_kN, v_kE, v_kI, v_methE, v_methI, Rf.newB_ok, v_new, fin_rt, fin_nx, getR_s, liftK_s, R.ite_t, R.ite_f, List.getElem?_cons_zero, List.getElem?_cons_succ, List.set_cons_zero, List.set_cons_succ, List.map_cons, List.map_nil, List.cons_append, List.nil_append, List.replicate_succ, List.replicate_zero, k2_s, k3_s, insK_s, strK_s, mlK_s, optF_s, joinO_s, v_gp, v_gq, fldO_s, v_gf, setO_s, v_gs, optR_s, al_n, al_c, pi_t, pi_f, pi_n, wi_n, wi_c,
  add_i, sub_i, mod_i, div_i, pow_60, pow_18, lt_i, le_i, gt_i, ge_i, mul_i, is_n, nis_n, is_i, nis_i, is_t, nis_t, ix_t, ix_l, ix_s, set0, set1, set2, len_t, len_l, len_s, abs_i, int_i, int_b, sl_l, sl_t, fz_l, fz_t, fz_d, fz_i, seq_t, seq_l, zip_l, zip_t, enum_l, tuple_l, tuple_t, list_l, list_t, neg_i, isa_isInt_non, isa_isInt_bl, isa_isInt_int, isa_isInt_str, isa_isInt_tup, isa_isInt_lst, isa_isInt_scr, isa_isInt_dct, isa_isBool_non, isa_isBool_bl, isa_isBool_int, isa_isBool_str, isa_isBool_tup, isa_isBool_lst, isa_isBool_scr, isa_isBool_dct, isa_isStr_non, isa_isStr_bl, isa_isStr_int, isa_isStr_str, isa_isStr_tup, isa_isStr_lst, isa_isStr_scr, isa_isStr_dct, isa_isTuple_non, isa_isTuple_bl, isa_isTuple_int, isa_isTuple_str, isa_isTuple_tup, isa_isTuple_lst, isa_isTuple_scr, isa_isTuple_dct, isa_isList_non, isa_isList_bl, isa_isList_int, isa_isList_str, isa_isList_tup, isa_isList_lst, isa_isList_scr, isa_isList_dct, isa_isDict_non, isa_isDict_bl, isa_isDict_int, isa_isDict_str, isa_isDict_tup, isa_isDict_lst, isa_isDict_scr, isa_isDict_dct, eq_i, ne_i, eq_s, ne_s, fzn_1, fzn_2, fzn_3, fzn_4, fzn_5, fzn_6, fzn_7, fzn_8, fzn_9, fzn_s, fznL_n, fznL_c, fznK_n, fznK_c, fznF_n, fznF_c, sz0, sz1, sz2, sz3, sz4, sz5, sz6, sz7, sz8, pk1, pk2, pk3, pk4, fzL_n, fzL_c, fz_int, fz_bl, fz_str, fz_non, putD_n, putD_c, at0, at1, at2, at3, ix0, ix1, ix2, Bool.not_true, Bool.not_false, Bool.true_and, Bool.and_true, Bool.false_and, Bool.and_false, Bool.or_true, Bool.true_or, Bool.false_or, Bool.or_false, if_true, if_false, Bool.false_eq_true, decide_true, decide_false, and_self, and_true, true_and, not_true_eq_false, not_false_eq_true, ne_eq, false_and, and_false, eq_self, v_parN, po2, po3, po4, se_n, se_c, v_gUL, v_dnew, fi2_i, gdiv_i, gadd_i])
section
/-! ### repr by parts -/
structure Rp (n w : Nat) (d : D) : Prop where
  ex : ∃ p, toPy d = some p ∧ plainD n p = true ∧ p.showable = true ∧ wt p ≤ w
theorem Rp.repr {n w : Nat} {d : D} (h : Rp n w d) (hn : n ≤ 60) (hw : w ≤ 8000) : ∃ x, fRepr [d] = some (.str x) := by
  obtain ⟨p, h1, h2, h3, h4⟩ := h.ex
  exact ⟨_, repr_ok h1 h2 hn h3 (by omega)⟩
/-! ### loops that may return -/
/-! ### dicts of pairs, slices -/
theorem fld_bc {c : Nat} {rs : List Row} {o : Bool} {k : D → R D} : asI (machD o c rs) ["InstructionSet"] "byte_count" k () = k (.int c) := by
  unfold machD
  rw [asI_i, cl1, R.ite_t, lk0, liftK_s]
/-! ### a value equals itself -/
end
section
/-! ### repr of tuples and dicts by parts -/
theorem all_bb {α : Type} {o : Bool} {l : List α} {f : α → Bool} : fAll [.lst o (l.map fun a => .bl (f a))] = some (.bl (l.all f)) := by
  have : ∀ l : List α, boolsD (l.map fun a => .bl (f a)) = some (l.map f) := by
    intro l
    induction l with
    | nil => rfl
    | cons a l ih => rw [List.map_cons, boolsD, ih]; rfl
  unfold fAll lBools
  simp only
  rw [this]
  simp
end
section
/-! ### how long what is shown of a value is -/
structure Rv (n w : Nat) (d : D) : Prop where
  ex : ∃ p, toPyR d = some p ∧ p.showable = true ∧ p.depth ≤ n ∧ p.shown.length ≤ w
structure RvL (n w : Nat) (ds : List D) : Prop where
  ex : ∃ ps, toPyRL ds = some ps ∧ PyData.showableAll ps = true ∧ PyData.depthAll ps ≤ n ∧ ((PyData.shownAll ps).map (·.length)).sum ≤ ds.length * w ∧ (PyData.shownAll ps).length = ds.length
theorem Rv.mono {n w n' w' : Nat} {d : D} (h : Rv n w d) (hn : n ≤ n') (hw : w ≤ w') : Rv n' w' d := by
  obtain ⟨p, h1, h2, h3, h4⟩ := h.ex
  exact ⟨p, h1, h2, by omega, by omega⟩
theorem rvl {n w : Nat} : ∀ {ds : List D}, (∀ d ∈ ds, Rv n w d) → RvL n w ds
  | [], _ => ⟨[], by rw [toPyRL], rfl, by rw [PyData.depthAll]; omega, by rw [PyData.shownAll]; simp, by rw [PyData.shownAll]; rfl⟩
  | d :: ds, h => by
    obtain ⟨p, h1, h2, h3, h4⟩ := (h d (List.mem_cons_self ..)).ex
    obtain ⟨q, k1, k2, k3, k4, k5⟩ := (rvl fun x hx => h x (List.mem_cons_of_mem _ hx)).ex
    refine ⟨p :: q, by rw [toPyRL, h1, k1]; rfl, by simp only [PyData.showableAll, h2, k2]; rfl, by rw [PyData.depthAll]; omega, ?_, by rw [PyData.shownAll, List.length_cons, k5, List.length_cons]⟩
    rw [PyData.shownAll, List.map_cons, List.sum_cons, List.length_cons, Nat.succ_mul]
    omega
theorem rv_tup {n w : Nat} {ds : List D} (h : ∀ d ∈ ds, Rv n w d) : Rv (n + 1) (ds.length * (w + 2) + 3) (.tup ds) := by
  obtain ⟨q, k1, k2, k3, k4, k5⟩ := (rvl h).ex
  refine ⟨.tuple q, by rw [toPyR, k1]; rfl, k2, by rw [PyData.depth]; omega, ?_⟩
  have := tupleText_len_le (PyData.shownAll q)
  rw [PyData.shown]
  rw [k5] at this
  rw [Nat.mul_add]
  omega
theorem rv_lst {n w : Nat} {o : Bool} {ds : List D} (h : ∀ d ∈ ds, Rv n w d) : Rv (n + 1) (ds.length * (w + 2) + 3) (.lst o ds) := by
  obtain ⟨q, k1, k2, k3, k4, k5⟩ := (rvl h).ex
  refine ⟨.list q, by rw [toPyR, k1]; rfl, k2, by rw [PyData.depth]; omega, ?_⟩
  have := listText_len_le (PyData.shownAll q)
  rw [PyData.shown]
  rw [k5] at this
  rw [Nat.mul_add]
  omega
theorem int_short {i : Int} (h : i.natAbs < 1000) : (PyData.int i).shown.length ≤ 52 := by
  have k1 : ∀ n : Nat, n < 1000 → (PyData.int (n : Int)).shown.length ≤ 52 := by decide +kernel
  have k2 : ∀ n : Nat, n < 1000 → (PyData.int (-(n : Int))).shown.length ≤ 52 := by decide +kernel
  rcases Int.natAbs_eq i with e | e
  · rw [e]; exact k1 _ h
  · rw [e]; exact k2 _ h
theorem Rv.repr {n w : Nat} {d : D} (h : Rv n w d) (hn : n ≤ 60) (hw : w ≤ 16000000) : ∃ x, fReprV [d] = some (.str x) := by
  obtain ⟨p, h1, h2, h3, h4⟩ := h.ex
  have e1 : decide (p.depth ≤ 60) = true := decide_eq_true (by omega)
  have e2 : decide (p.shown.length ≤ sizeLine) = true := decide_eq_true (Nat.le_trans (Nat.le_trans h4 hw) (by decide))
  refine ⟨p.shown, ?_⟩
  have hR : fReprR [d] = if isRefR d then some (.str p.shown) else none := by
    show (match toPyR d with | some p => if (isRefR d && p.showable && decide (p.depth ≤ 60) && decide (p.shown.length ≤ sizeLine)) = true then some (D.str p.shown) else none | none => none) = _
    rw [h1]
    simp only
    rw [h2, e1, e2, Bool.and_true, Bool.and_true, Bool.and_true]
  unfold fReprV
  rw [hR]
  have hL : isRefR d = false → toPy d = some p → fRepr [d] = some (.str p.shown) := by
    intro _ ht
    show (match toPy d with | some p => if (p.showable && decide (p.depth ≤ 60) && decide (p.shown.length ≤ sizeLine)) = true then some (D.str p.shown) else none | none => none) = _
    rw [ht]
    simp only
    rw [h2, e1, e2]
    rfl
  cases d with
  | non => exact hL rfl (by rw [toPy, ← h1, toPyR])
  | bl b => exact hL rfl (by rw [toPy, ← h1, toPyR])
  | int b => exact hL rfl (by rw [toPy, ← h1, toPyR])
  | str b => exact hL rfl (by rw [toPy, ← h1, toPyR])
  | tup b => rfl
  | lst o b => rfl
  | dct o b => rfl
  | _ => simp [toPyR] at h1
end
section
/-! ### mirrors with errors are run by simp -/
section
variable {env : Env} {m n : ME} {mB : MB} {mS nS : MS} {ms : ML} {d : D} {i j : Nat} {x : Exn} {e : Env}
theorem x_bL {α β : Type} {f : α → Env → R β} : (R.ex x e : R α).bindL f () = .ex x e := nrfl rfl
theorem x_back {ios : List D} {as : List Arg} {e2 : Env} : Rf.back (.ex x ios) as e2 = optE (backA as ios e2) (fun e3 => .ex x e3) () := by
  show (match backA as ios e2 with | some e3 => R.ex x e3 | none => R.no) = _
  cases backA as ios e2 <;> rfl
theorem fin_x {io : List Bool} : fin io (.ex x env) = optR (allS (pick io env)) (fun ios => .ex x ios) () := by unfold fin optR; rfl
theorem v_clE : calmE m env = nxR (m env) := nrfl rfl
theorem v_clB : calmB mB env = nxR (mB env) := nrfl rfl
theorem v_clS : calmS mS env = nxR (mS env) := nrfl rfl
theorem nx_ok {α : Type} {a : α} : nxR (.ok a e) = .ok a e := nrfl rfl
theorem v_raise {c f : String} : sRaise c f m env = (m env).bindL (fun d e => R.ite (fzn d) (fun _ => .ex ⟨c, [(f, d)]⟩ e) (fun _ => .no) () ()) () := by
  simp only [R.bindL]
  unfold sRaise
  congr 1; funext d e; cases h : fzn d <;> rfl
def tryK (r : R Fl) (L : List String) (hs : List Hnd) : R Fl := match r with
  | .ok fl e => .ok fl e
  | .ex x e => hdF L hs x e
  | .no => .no
theorem tryK_ok {fl : Fl} {L : List String} {hs : List Hnd} : tryK (.ok fl e) L hs = .ok fl e := nrfl rfl
theorem tryK_ex {L : List String} {hs : List Hnd} : tryK (.ex x e) L hs = hdF L hs x e := nrfl rfl
theorem v_try {L : List String} {hs : List Hnd} : sTry L mS hs env = tryK (mS env) L hs := nrfl rfl
def hdM (nm : Option Nat) (ms : MS) (c : String) (fs : List (String × D)) (e : Env) : R Fl := match nm with
  | some i => (ms (e.set i (some (.exn c fs)))).bindL (fun fl e2 => .ok fl (e2.set i none)) ()
  | none => ms e
theorem hdM_s {c : String} {fs : List (String × D)} : hdM (some i) mS c fs e = (mS (e.set i (some (.exn c fs)))).bindL (fun fl e2 => .ok fl (e2.set i none)) () := nrfl rfl
theorem hdM_n {c : String} {fs : List (String × D)} : hdM none mS c fs e = mS e := nrfl rfl
theorem v_hd {L : List String} {t c : String} {fs : List (String × D)} {nm : Option Nat} {r : List Hnd} : hdF L ((t, nm, mS) :: r) ⟨c, fs⟩ e = R.ite (L.contains c) (fun _ => R.ite (isSub c t) (fun _ => hdM nm mS c fs e) (fun _ => hdF L r ⟨c, fs⟩ e) () ()) (fun _ => .no) () () := by
  rw [hdF.eq_def]
  simp only
  cases L.contains c
  · rfl
  · cases isSub c t
    · rfl
    · cases nm <;> rfl
theorem v_cb {v : D} {r : Env} : eCb v 0 (.ok d e) (some v :: r) = .ok d (some v :: r) := by
  exact if_pos rfl
theorem v_cbx {v : D} {r : Env} : eCb v 0 (.ex x e) (some v :: r) = .ex x (some v :: r) := by
  exact if_pos rfl
def asX {α : Type} (d : D) (L : List String) (f : String) (k : D → R α) (_ : Tg k) : R α := match d with | .exn c fs => R.ite (L.contains c) (fun _ => liftK (fs.lookup f) k ()) (fun _ => .no) () () | _ => .no
theorem asX_e {α : Type} {L : List String} {f c : String} {fs : List (String × D)} {k : D → R α} : asX (.exn c fs) L f k () = R.ite (L.contains c) (fun _ => liftK (fs.lookup f) k ()) (fun _ => .no) () () := nrfl rfl
theorem v_xf {L : List String} {f : String} : eXf L f m env = (m env).bindL (fun d e => asX d L f (fun r => .ok r e) ()) () := by
  simp only [R.bindL]
  unfold eXf asX; congr 1; funext d e
  cases d with
  | exn c fs =>
    simp only
    cases h : L.contains c
    · rfl
    · simp only [if_true, R.ite]
      unfold lift liftK
      cases fs.lookup f <;> rfl
  | _ => rfl
theorem v_d1 {x : Str} {k : Int} : eD1 x k env = .ok (.dct true [(.str x, .int k)]) env := nrfl rfl
theorem lk_hit {f : String} {fs : List (String × D)} : List.lookup f ((f, d) :: fs) = some d := by simp [List.lookup]
end
end
end Mi
set_option maxHeartbeats 4000000
set_option exponentiation.threshold 100000
namespace Mi
open PySem PySem.Spec PyProof.Rows L2 RZ Ov PpSet
local macro_rules | `(tactic| walk_at "ev") => `(tactic| simp -dsimp only [*, b_bo, b_b0, v_bo, v_b0, v_c, v_v, v_mv, v_vk, v_k, v_fk, v_nil, v_cons, v_1, v_2, v_L, v_bB, asB_b, v_bAnd, v_bOr, v_bNot, v_bYes, v_if, v_and, v_or, v_not, v_tup, v_lst, v_fld, asI_i, v_oN, v_oS, optI_i, v_sl, v_rg1, v_rg2, v_lrg, v_trg, chainK_b, v_chain,
  Fl.k_nx, Fl.k_rt, Fl.k_bk, Fl.k_ct, v_seq, v_pass, v_bk, v_ct, v_ret, v_retN, v_expr, v_sif, v_asg, optE_s, v_gN, v_gT, v_gsN, v_gsC, Option.bind_some, v_par, v_par3, v_aug, v_put, v_sfld, v_for, optL_s, v_iSeq, v_iOf, v_iStr, v_lc, v_mList, Rf.back_ok, optP_s, v_callF, v_call, v_aN, v_aE, v_aI, v_fN, v_fE, v_fI, optD_s, Option.map_some,
  v_kN, v_kE, v_kI, v_methE, v_methI, Rf.newB_ok, v_new, fin_rt, fin_nx, getR_s, liftK_s, R.ite_t, R.ite_f, List.getElem?_cons_zero, List.getElem?_cons_succ, List.set_cons_zero, List.set_cons_succ, List.map_cons, List.map_nil, List.cons_append, List.nil_append, List.replicate_succ, List.replicate_zero, k2_s, k3_s, insK_s, strK_s, mlK_s, optF_s, joinO_s, v_gp, v_gq, fldO_s, v_gf, setO_s, v_gs, optR_s, al_n, al_c, pi_t, pi_f, pi_n, wi_n, wi_c,
  add_i, sub_i, mod_i, div_i, pow_60, pow_18, lt_i, le_i, gt_i, ge_i, mul_i, is_n, nis_n, is_i, nis_i, is_t, nis_t, ix_t, ix_l, ix_s, set0, set1, set2, len_t, len_l, len_s, abs_i, int_i, int_b, sl_l, sl_t, fz_l, fz_t, fz_d, fz_i, seq_t, seq_l, zip_l, zip_t, enum_l, tuple_l, tuple_t, list_l, list_t, neg_i, isa_isInt_non, isa_isInt_bl, isa_isInt_int, isa_isInt_str, isa_isInt_tup, isa_isInt_lst, isa_isInt_scr, isa_isInt_dct, isa_isBool_non, isa_isBool_bl, isa_isBool_int, isa_isBool_str, isa_isBool_tup, isa_isBool_lst, isa_isBool_scr, isa_isBool_dct, isa_isStr_non, isa_isStr_bl, isa_isStr_int, isa_isStr_str, isa_isStr_tup, isa_isStr_lst, isa_isStr_scr, isa_isStr_dct, isa_isTuple_non, isa_isTuple_bl, isa_isTuple_int, isa_isTuple_str, isa_isTuple_tup, isa_isTuple_lst, isa_isTuple_scr, isa_isTuple_dct, isa_isList_non, isa_isList_bl, isa_isList_int, isa_isList_str, isa_isList_tup, isa_isList_lst, isa_isList_scr, isa_isList_dct, isa_isDict_non, isa_isDict_bl, isa_isDict_int, isa_isDict_str, isa_isDict_tup, isa_isDict_lst, isa_isDict_scr, isa_isDict_dct, eq_i, ne_i, eq_s, ne_s, fzn_1, fzn_2, fzn_3, fzn_4, fzn_5, fzn_6, fzn_7, fzn_8, fzn_9, fzn_s, fznL_n, fznL_c, fznK_n, fznK_c, fznF_n, fznF_c, sz0, sz1, sz2, sz3, sz4, sz5, sz6, sz7, sz8, pk1, pk2, pk3, pk4, fzL_n, fzL_c, fz_int, fz_bl, fz_str, fz_non, putD_n, putD_c, at0, at1, at2, at3, ix0, ix1, ix2, Bool.not_true, Bool.not_false, Bool.true_and, Bool.and_true, Bool.false_and, Bool.and_false, Bool.or_true, Bool.true_or, Bool.false_or, Bool.or_false, if_true, if_false, Bool.false_eq_true, decide_true, decide_false, and_self, and_true, true_and, not_true_eq_false, not_false_eq_true, ne_eq, false_and, and_false, eq_self])
local macro_rules | `(tactic| walk_at "env") => `(tactic| simp only [List.map_cons, List.map_nil, List.cons_append, List.nil_append, List.replicate_succ, List.replicate_zero])
local macro_rules | `(tactic| walk_at "ew") => `(tactic| simp -dsimp only [*, b_bo, b_b0, v_bo, v_b0, v_c, v_v, v_mv, v_vk, v_k, v_fk, v_nil, v_cons, v_1, v_2, v_L, v_bB, asB_b, v_bAnd, v_bOr, v_bNot, v_bYes, v_if, v_and, v_or, v_not, v_tup, v_lst, v_fld, asI_i, v_oN, v_oS, optI_i, v_sl, v_rg1, v_rg2, v_lrg, v_trg, chainK_b, v_chain,
  Fl.k_nx, Fl.k_rt, Fl.k_bk, Fl.k_ct, v_seq, v_pass, v_bk, v_ct, v_ret, v_retN, v_expr, v_sif, v_asg, optE_s, v_gN, v_gT, v_gsN, v_gsC, Option.bind_some, v_par, v_par3, v_aug, v_put, v_sfld, v_for, optL_s, v_iSeq, v_iOf, v_iStr, v_lc, v_mList, Rf.back_ok, optP_s, v_callF, v_call, v_aN, v_aE, v_aI, v_fN, v_fE, v_fI, optD_s, Option.map_some,
  v_kN, v_kE, v_kI, v_methE, v_methI, Rf.newB_ok, v_new, fin_rt, fin_nx, getR_s, liftK_s, R.ite_t, R.ite_f, List.getElem?_cons_zero, List.getElem?_cons_succ, List.set_cons_zero, List.set_cons_succ, List.map_cons, List.map_nil, List.cons_append, List.nil_append, List.replicate_succ, List.replicate_zero, k2_s, k3_s, insK_s, strK_s, mlK_s, optF_s, joinO_s, v_gp, v_gq, fldO_s, v_gf, setO_s, v_gs, optR_s, al_n, al_c, pi_t, pi_f, pi_n, wi_n, wi_c,
  add_i, sub_i, mod_i, div_i, pow_60, pow_18, lt_i, le_i, gt_i, ge_i, mul_i, is_n, nis_n, is_i, nis_i, is_t, nis_t, ix_t, ix_l, ix_s, set0, set1, set2, len_t, len_l, len_s, abs_i, int_i, int_b, sl_l, sl_t, fz_l, fz_t, fz_d, fz_i, seq_t, seq_l, zip_l, zip_t, enum_l, tuple_l, tuple_t, list_l, list_t, neg_i, isa_isInt_non, isa_isInt_bl, isa_isInt_int, isa_isInt_str, isa_isInt_tup, isa_isInt_lst, isa_isInt_scr, isa_isInt_dct, isa_isBool_non, isa_isBool_bl, isa_isBool_int, isa_isBool_str, isa_isBool_tup, isa_isBool_lst, isa_isBool_scr, isa_isBool_dct, isa_isStr_non, isa_isStr_bl, isa_isStr_int, isa_isStr_str, isa_isStr_tup, isa_isStr_lst, isa_isStr_scr, isa_isStr_dct, isa_isTuple_non, isa_isTuple_bl, isa_isTuple_int, isa_isTuple_str, isa_isTuple_tup, isa_isTuple_lst, isa_isTuple_scr, isa_isTuple_dct, isa_isList_non, isa_isList_bl, isa_isList_int, isa_isList_str, isa_isList_tup, isa_isList_lst, isa_isList_scr, isa_isList_dct, isa_isDict_non, isa_isDict_bl, isa_isDict_int, isa_isDict_str, isa_isDict_tup, isa_isDict_lst, isa_isDict_scr, isa_isDict_dct, eq_i, ne_i, eq_s, ne_s, fzn_1, fzn_2, fzn_3, fzn_4, fzn_5, fzn_6, fzn_7, fzn_8, fzn_9, fzn_s, fznL_n, fznL_c, fznK_n, fznK_c, fznF_n, fznF_c, sz0, sz1, sz2, sz3, sz4, sz5, sz6, sz7, sz8, pk1, pk2, pk3, pk4, fzL_n, fzL_c, fz_int, fz_bl, fz_str, fz_non, putD_n, putD_c, at0, at1, at2, at3, ix0, ix1, ix2, Bool.not_true, Bool.not_false, Bool.true_and, Bool.and_true, Bool.false_and, Bool.and_false, Bool.or_true, Bool.true_or, Bool.false_or, Bool.or_false, if_true, if_false, Bool.false_eq_true, decide_true, decide_false, and_self, and_true, true_and, not_true_eq_false, not_false_eq_true, ne_eq, false_and, and_false, eq_self, v_parN, po2, po3, po4, se_n, se_c, v_gUL, v_dnew, fi2_i, gdiv_i, gadd_i, x_bL, x_back, fin_x, v_clE, v_clB, v_clS, nx_ok, v_raise, tryK_ok, tryK_ex, v_try, hdM_s, hdM_n, v_hd, v_cb, v_cbx, v_xf, asX_e, v_d1, lk_hit])
section
/-! ### what may come as an argument that is checked -/
def wi (v : D) (a b : Int) : Bool := match v with
  | .int i => decide (a ≤ i) && decide (i ≤ b)
  | _ => false
theorem append_4 {a b c d : D} : fAppend [a, b, c] [d] = some (.non, [a, b, c, d]) := by
  have h : ([a, b, c] : List D).length < sizeLine := Nat.lt_of_lt_of_le (by decide : 3 < 4) (by decide)
  show (if ([a, b, c] : List D).length < sizeLine then some (D.non, [a, b, c] ++ [d]) else none) = _
  rw [if_pos h]
  rfl
theorem rv_int {n : Nat} {i : Int} (h : i.natAbs < 1000) : Rv n 52 (.int i) := ⟨.int i, by rw [toPyR], show_int (Nat.lt_trans h (by decide)), Nat.zero_le _, int_short h⟩
theorem rv_str {n : Nat} {x : Str} (h : (PyData.str x).shown.length ≤ 52) : Rv n 52 (.str x) := ⟨.str x, by rw [toPyR], rfl, Nat.zero_le _, h⟩
end
section
/-! ### steps for errors made as values -/
theorem v_mkXL {c f : String} {m : ME} {env : Env} : eMkX c f m env = (m env).bindL (fun d e => R.ite (fzn d) (fun _ => .ok (.exn c [(f, d)]) e) (fun _ => .no) () ()) () := by
  simp only [R.bindL]
  unfold eMkX
  congr 1; funext d e; cases h : fzn d <;> rfl
theorem fzn_exn {c : String} {fs : List (String × D)} : fzn (.exn c fs) = fznF fs := by rw [fzn]
theorem fz_exn {c : String} {fs : List (String × D)} : fz (.exn c fs) = .exn c (fzF fs) := by rw [fz]
theorem fzF_n : fzF [] = [] := by rw [fzF]
theorem fzF_c {f : String} {d : D} {r : List (String × D)} : fzF ((f, d) :: r) = (f, fz d) :: fzF r := by rw [fzF]
end
end Mi
set_option maxHeartbeats 4000000
set_option exponentiation.threshold 100000
namespace Mi
open PySem PySem.Spec PyProof.Rows L2 RZ Ov PpSet
local macro_rules | `(tactic| walk_at "ev") => `(tactic| simp -dsimp only [*, b_bo, b_b0, v_bo, v_b0, v_c, v_v, v_mv, v_vk, v_k, v_fk, v_nil, v_cons, v_1, v_2, v_L, v_bB, asB_b, v_bAnd, v_bOr, v_bNot, v_bYes, v_if, v_and, v_or, v_not, v_tup, v_lst, v_fld, asI_i, v_oN, v_oS, optI_i, v_sl, v_rg1, v_rg2, v_lrg, v_trg, chainK_b, v_chain,
  Fl.k_nx, Fl.k_rt, Fl.k_bk, Fl.k_ct, v_seq, v_pass, v_bk, v_ct, v_ret, v_retN, v_expr, v_sif, v_asg, optE_s, v_gN, v_gT, v_gsN, v_gsC, Option.bind_some, v_par, v_par3, v_aug, v_put, v_sfld, v_for, optL_s, v_iSeq, v_iOf, v_iStr, v_lc, v_mList, Rf.back_ok, optP_s, v_callF, v_call, v_aN, v_aE, v_aI, v_fN, v_fE, v_fI, optD_s, Option.map_some,
  v_kN, v_kE, v_kI, v_methE, v_methI, Rf.newB_ok, v_new, fin_rt, fin_nx, getR_s, liftK_s, R.ite_t, R.ite_f, List.getElem?_cons_zero, List.getElem?_cons_succ, List.set_cons_zero, List.set_cons_succ, List.map_cons, List.map_nil, List.cons_append, List.nil_append, List.replicate_succ, List.replicate_zero, k2_s, k3_s, insK_s, strK_s, mlK_s, optF_s, joinO_s, v_gp, v_gq, fldO_s, v_gf, setO_s, v_gs, optR_s, al_n, al_c, pi_t, pi_f, pi_n, wi_n, wi_c,
  add_i, sub_i, mod_i, div_i, pow_60, pow_18, lt_i, le_i, gt_i, ge_i, mul_i, is_n, nis_n, is_i, nis_i, is_t, nis_t, ix_t, ix_l, ix_s, set0, set1, set2, len_t, len_l, len_s, abs_i, int_i, int_b, sl_l, sl_t, fz_l, fz_t, fz_d, fz_i, seq_t, seq_l, zip_l, zip_t, enum_l, tuple_l, tuple_t, list_l, list_t, neg_i, isa_isInt_non, isa_isInt_bl, isa_isInt_int, isa_isInt_str, isa_isInt_tup, isa_isInt_lst, isa_isInt_scr, isa_isInt_dct, isa_isBool_non, isa_isBool_bl, isa_isBool_int, isa_isBool_str, isa_isBool_tup, isa_isBool_lst, isa_isBool_scr, isa_isBool_dct, isa_isStr_non, isa_isStr_bl, isa_isStr_int, isa_isStr_str, isa_isStr_tup, isa_isStr_lst, isa_isStr_scr, isa_isStr_dct, isa_isTuple_non, isa_isTuple_bl, isa_isTuple_int, isa_isTuple_str, isa_isTuple_tup, isa_isTuple_lst, isa_isTuple_scr, isa_isTuple_dct, isa_isList_non, isa_isList_bl, isa_isList_int, isa_isList_str, isa_isList_tup, isa_isList_lst, isa_isList_scr, isa_isList_dct, isa_isDict_non, isa_isDict_bl, isa_isDict_int, isa_isDict_str, isa_isDict_tup, isa_isDict_lst, isa_isDict_scr, isa_isDict_dct, eq_i, ne_i, eq_s, ne_s, fzn_1, fzn_2, fzn_3, fzn_4, fzn_5, fzn_6, fzn_7, fzn_8, fzn_9, fzn_s, fznL_n, fznL_c, fznK_n, fznK_c, fznF_n, fznF_c, sz0, sz1, sz2, sz3, sz4, sz5, sz6, sz7, sz8, pk1, pk2, pk3, pk4, fzL_n, fzL_c, fz_int, fz_bl, fz_str, fz_non, putD_n, putD_c, at0, at1, at2, at3, ix0, ix1, ix2, Bool.not_true, Bool.not_false, Bool.true_and, Bool.and_true, Bool.false_and, Bool.and_false, Bool.or_true, Bool.true_or, Bool.false_or, Bool.or_false, if_true, if_false, Bool.false_eq_true, decide_true, decide_false, and_self, and_true, true_and, not_true_eq_false, not_false_eq_true, ne_eq, false_and, and_false, eq_self])
local macro_rules | `(tactic| walk_at "env") => `(tactic| simp only [List.map_cons, List.map_nil, List.cons_append, List.nil_append, List.replicate_succ, List.replicate_zero])
local macro_rules | `(tactic| walk_at "ew") => `(tactic| simp -dsimp only [*, b_bo, b_b0, v_bo, v_b0, v_c, v_v, v_mv, v_vk, v_k, v_fk, v_nil, v_cons, v_1, v_2, v_L, v_bB, asB_b, v_bAnd, v_bOr, v_bNot, v_bYes, v_if, v_and, v_or, v_not, v_tup, v_lst, v_fld, asI_i, v_oN, v_oS, optI_i, v_sl, v_rg1, v_rg2, v_lrg, v_trg, chainK_b, v_chain,
  Fl.k_nx, Fl.k_rt, Fl.k_bk, Fl.k_ct, v_seq, v_pass, v_bk, v_ct, v_ret, v_retN, v_expr, v_sif, v_asg, optE_s, v_gN, v_gT, v_gsN, v_gsC, Option.bind_some, v_par, v_par3, v_aug, v_put, v_sfld, v_for, optL_s, v_iSeq, v_iOf, v_iStr, v_lc, v_mList, Rf.back_ok, optP_s, v_callF, v_call, v_aN, v_aE, v_aI, v_fN, v_fE, v_fI, optD_s, Option.map_some,
  v_kN, v_kE, v_kI, v_methE, v_methI, Rf.newB_ok, v_new, fin_rt, fin_nx, getR_s, liftK_s, R.ite_t, R.ite_f, List.getElem?_cons_zero, List.getElem?_cons_succ, List.set_cons_zero, List.set_cons_succ, List.map_cons, List.map_nil, List.cons_append, List.nil_append, List.replicate_succ, List.replicate_zero, k2_s, k3_s, insK_s, strK_s, mlK_s, optF_s, joinO_s, v_gp, v_gq, fldO_s, v_gf, setO_s, v_gs, optR_s, al_n, al_c, pi_t, pi_f, pi_n, wi_n, wi_c,
  add_i, sub_i, mod_i, div_i, pow_60, pow_18, lt_i, le_i, gt_i, ge_i, mul_i, is_n, nis_n, is_i, nis_i, is_t, nis_t, ix_t, ix_l, ix_s, set0, set1, set2, len_t, len_l, len_s, abs_i, int_i, int_b, sl_l, sl_t, fz_l, fz_t, fz_d, fz_i, seq_t, seq_l, zip_l, zip_t, enum_l, tuple_l, tuple_t, list_l, list_t, neg_i, isa_isInt_non, isa_isInt_bl, isa_isInt_int, isa_isInt_str, isa_isInt_tup, isa_isInt_lst, isa_isInt_scr, isa_isInt_dct, isa_isBool_non, isa_isBool_bl, isa_isBool_int, isa_isBool_str, isa_isBool_tup, isa_isBool_lst, isa_isBool_scr, isa_isBool_dct, isa_isStr_non, isa_isStr_bl, isa_isStr_int, isa_isStr_str, isa_isStr_tup, isa_isStr_lst, isa_isStr_scr, isa_isStr_dct, isa_isTuple_non, isa_isTuple_bl, isa_isTuple_int, isa_isTuple_str, isa_isTuple_tup, isa_isTuple_lst, isa_isTuple_scr, isa_isTuple_dct, isa_isList_non, isa_isList_bl, isa_isList_int, isa_isList_str, isa_isList_tup, isa_isList_lst, isa_isList_scr, isa_isList_dct, isa_isDict_non, isa_isDict_bl, isa_isDict_int, isa_isDict_str, isa_isDict_tup, isa_isDict_lst, isa_isDict_scr, isa_isDict_dct, eq_i, ne_i, eq_s, ne_s, fzn_1, fzn_2, fzn_3, fzn_4, fzn_5, fzn_6, fzn_7, fzn_8, fzn_9, fzn_s, fznL_n, fznL_c, fznK_n, fznK_c, fznF_n, fznF_c, sz0, sz1, sz2, sz3, sz4, sz5, sz6, sz7, sz8, pk1, pk2, pk3, pk4, fzL_n, fzL_c, fz_int, fz_bl, fz_str, fz_non, putD_n, putD_c, at0, at1, at2, at3, ix0, ix1, ix2, Bool.not_true, Bool.not_false, Bool.true_and, Bool.and_true, Bool.false_and, Bool.and_false, Bool.or_true, Bool.true_or, Bool.false_or, Bool.or_false, if_true, if_false, Bool.false_eq_true, decide_true, decide_false, and_self, and_true, true_and, not_true_eq_false, not_false_eq_true, ne_eq, false_and, and_false, eq_self, v_parN, po2, po3, po4, se_n, se_c, v_gUL, v_dnew, fi2_i, gdiv_i, gadd_i, x_bL, x_back, fin_x, v_clE, v_clB, v_clS, nx_ok, v_raise, tryK_ok, tryK_ex, v_try, hdM_s, hdM_n, v_hd, v_cb, v_cbx, v_xf, asX_e, v_d1, lk_hit, v_mkXL, v_mkN, fzn_exn, fz_exn, fzF_n, fzF_c])
section
/-! ### texts -/
open TL (tl tl_append ext_tl len_tl mk_tl tl_ofString tl_join join_eq split_spl kind_ok numL tl_num numL_digits numL_ne numL_val numL_free numL_len spl spl_nil)
abbrev DG : Str := PySem.Str.ofString "0123456789"
abbrev eS : Str := PySem.Str.ofString ""
theorem tl_DG : tl DG = [48, 49, 50, 51, 52, 53, 54, 55, 56, 57] := by rw [tl_ofString]; rfl
theorem tl_eS : tl eS = [] := by rw [tl_ofString]; rfl
theorem mem_DG {c : Nat} : c ∈ tl DG ↔ 48 ≤ c ∧ c ≤ 57 := by
  rw [tl_DG]
  simp only [List.mem_cons, List.not_mem_nil, or_false]
  omega
def isDg (c : Nat) : Bool := decide (48 ≤ c) && decide (c ≤ 57)
theorem goes_DG : (fun c => DG.cps.contains c) = isDg := by
  funext c
  have e : DG.cps.contains c = decide (c ∈ tl DG) := by
    show DG.cps.contains c = decide (c ∈ DG.cps.toList)
    cases h : DG.cps.contains c with
    | true => rw [decide_eq_true (Array.mem_toList_iff.mpr (Array.contains_iff_mem.mp h))]
    | false => rw [decide_eq_false fun q => by rw [Array.contains_iff_mem.mpr (Array.mem_toList_iff.mp q)] at h; cases h]
  rw [e]
  unfold isDg
  rw [← Bool.decide_and]
  exact decide_eq_decide.mpr mem_DG
theorem eS_iff {x : Str} : x = eS ↔ tl x = [] := ⟨fun h => by rw [h, tl_eS], fun h => ext_tl (by rw [h, tl_eS])⟩
theorem takeW_all {p : Nat → Bool} : ∀ {l : List Nat}, (∀ c ∈ l, p c = true) → l.takeWhile p = l
  | [], _ => rfl
  | c :: r, h => by rw [List.takeWhile_cons, if_pos (h c (List.mem_cons_self ..)), takeW_all fun x hx => h x (List.mem_cons_of_mem _ hx)]
theorem takeW_lt {p : Nat → Bool} : ∀ {l : List Nat} {c : Nat}, c ∈ l → p c = false → (l.takeWhile p).length < l.length
  | d :: r, c, h, hc => by
    rw [List.takeWhile_cons]
    by_cases q : p d = true
    · rw [if_pos q]
      rcases List.mem_cons.mp h with rfl | h
      · rw [hc] at q; cases q
      · have := takeW_lt h hc
        simp only [List.length_cons]; omega
    · rw [if_neg q]; simp
theorem dropW {p : Nat → Bool} : ∀ {l : List Nat} {c : Nat}, c ∈ l → p c = false → ∃ d r, l.drop (l.takeWhile p).length = d :: r ∧ p d = false
  | d :: r, c, h, hc => by
    rw [List.takeWhile_cons]
    by_cases q : p d = true
    · rw [if_pos q]
      rcases List.mem_cons.mp h with rfl | h
      · rw [hc] at q; cases q
      · exact dropW h hc
    · rw [if_neg q]
      exact ⟨d, r, rfl, by simpa using q⟩
theorem len_ext {x : Str} {a b : Nat} (hb : b ≤ x.length) : (tl (Builtin.Str.strSub x a b)).length = b - a := by
  show (x.cps.extract a b).toList.length = b - a
  rw [Array.length_toList, Array.size_extract]
  have : x.cps.size = x.length := rfl
  omega
/-- x.strip(digits) is empty where all signs are digits, and only there -/
theorem strip_dg {x : Str} : Txt.stripChars x DG = eS ↔ ∀ c ∈ tl x, isDg c = true := by
  obtain ⟨lo, hlo⟩ : ∃ lo, lo = ((tl x).takeWhile isDg).length := ⟨_, rfl⟩
  obtain ⟨hi, hhi⟩ : ∃ hi, hi = x.length - (((tl x).drop lo).reverse.takeWhile isDg).length := ⟨_, rfl⟩
  have g : Txt.stripChars x DG = if (lo == 0 && hi == x.length) = true then x else Builtin.Str.strSub x lo hi := by
    unfold Txt.stripChars
    rw [show DG.cps.contains = isDg from goes_DG, hhi, hlo]
    rfl
  rw [g]
  have hlen : x.length = (tl x).length := len_tl x
  constructor
  · intro h
    by_cases hs : (lo == 0 && hi == x.length) = true
    · rw [if_pos hs] at h
      rw [eS_iff.mp h]
      exact fun c hc => absurd hc List.not_mem_nil
    · rw [if_neg hs] at h
      have h3 := congrArg List.length (eS_iff.mp h)
      rw [len_ext (by omega), List.length_nil] at h3
      refine Classical.byContradiction fun hn => ?_
      obtain ⟨c, hc, hcb⟩ : ∃ c ∈ tl x, isDg c = false := by
        refine Classical.byContradiction fun hq => hn fun c hc => ?_
        cases hb : isDg c with
        | true => rfl
        | false => exact absurd ⟨c, hc, hb⟩ hq
      have l1 := takeW_lt hc hcb
      obtain ⟨d, r, hdr, hdf⟩ := dropW hc hcb
      rw [← hlo] at hdr l1
      have l2 : (((tl x).drop lo).reverse.takeWhile isDg).length < ((tl x).drop lo).reverse.length := takeW_lt (c := d) (by rw [hdr]; simp) hdf
      rw [List.length_reverse, List.length_drop] at l2
      omega
  · intro h
    rw [takeW_all h] at hlo
    rw [hlo, List.drop_length] at hhi
    have hhi : hi = x.length := hhi
    subst hhi
    by_cases hs : (lo == 0 && x.length == x.length) = true
    · rw [if_pos hs]
      have : lo = 0 := by simpa using hs
      exact eS_iff.mpr (List.length_eq_zero_iff.mp (by omega))
    · rw [if_neg hs]
      refine eS_iff.mpr (List.length_eq_zero_iff.mp ?_)
      rw [len_ext (Nat.le_refl _)]
      omega
/-! ### what split gives -/
theorem spl_ne : ∀ {S : List Nat} {k : Nat} {acc l : List Nat}, spl S k acc l ≠ []
  | S, k, acc, [] => by rw [spl_nil]; simp
  | S, 0, acc, c :: r => by
    rw [spl]
    split
    · simp
    · exact spl_ne
  | S, k + 1, acc, c :: r => by
    rw [spl]
    exact spl_ne
theorem split_ne {x y : Str} (hy : tl y ≠ []) (hk : y.cps.all (· < 256) = true) : Txt.split x y ≠ [] := fun h => by
  have := split_spl x y hy (kind_ok hk)
  rw [h] at this
  exact spl_ne this.symm
theorem join_len {y : Str} : ∀ {l : List Str}, l ≠ [] → (Str.join y l).length + y.length = (l.map (·.length)).sum + l.length * y.length
  | [], h => absurd rfl h
  | [x], _ => by
    show x.length + y.length = _
    simp
  | x :: z :: r, _ => by
    have ih := join_len (y := y) (l := z :: r) (by simp)
    show (x ++ y ++ Str.join y (z :: r)).length + y.length = _
    rw [Str.length_append, Str.length_append]
    simp only [List.map_cons, List.sum_cons, List.length_cons, Nat.succ_mul] at ih ⊢
    omega
theorem split_sum {x y : Str} (hy : tl y ≠ []) (hk : y.cps.all (· < 256) = true) : ((Txt.split x y).map (·.length)).sum + (Txt.split x y).length * y.length = x.length + y.length := by
  have := join_len (y := y) (l := Txt.split x y) (split_ne hy hk)
  rw [PySem.StrLaws.join_split] at this
  omega
/-- steps of a text's method -/
def strM {α : Type} (d : D) (k : Str → R α) (_ : Tg k) : R α := match d with | .str a => k a | _ => .no
theorem strM_s {α : Type} {a : Str} {k : Str → R α} : strM (.str a) k () = k a := nrfl rfl
theorem v_m1s {f : Str → D → Option D} {m n : ME} {env : Env} : eM1 f m n env = (m env).bindL (fun d e => strM d (fun a => (n e).bindL (fun d' e => liftK (f a d') (fun r => .ok r e) ()) ()) ()) () := by
  simp only [R.bindL]
  unfold eM1 strM
  first
    | rfl
    | (congr 1; funext d e; cases d <;> rfl)
end
end Mi
set_option maxHeartbeats 4000000
set_option exponentiation.threshold 100000
namespace Mi
open PySem PySem.Spec PyProof.Rows L2 RZ Ov PpSet
local macro_rules | `(tactic| walk_at "ev") => `(tactic| simp -dsimp only [*, b_bo, b_b0, v_bo, v_b0, v_c, v_v, v_mv, v_vk, v_k, v_fk, v_nil, v_cons, v_1, v_2, v_L, v_bB, asB_b, v_bAnd, v_bOr, v_bNot, v_bYes, v_if, v_and, v_or, v_not, v_tup, v_lst, v_fld, asI_i, v_oN, v_oS, optI_i, v_sl, v_rg1, v_rg2, v_lrg, v_trg, chainK_b, v_chain,
  Fl.k_nx, Fl.k_rt, Fl.k_bk, Fl.k_ct, v_seq, v_pass, v_bk, v_ct, v_ret, v_retN, v_expr, v_sif, v_asg, optE_s, v_gN, v_gT, v_gsN, v_gsC, Option.bind_some, v_par, v_par3, v_aug, v_put, v_sfld, v_for, optL_s, v_iSeq, v_iOf, v_iStr, v_lc, v_mList, Rf.back_ok, optP_s, v_callF, v_call, v_aN, v_aE, v_aI, v_fN, v_fE, v_fI, optD_s, Option.map_some,
  v_kN, v_kE, v_kI, v_methE, v_methI, Rf.newB_ok, v_new, fin_rt, fin_nx, getR_s, liftK_s, R.ite_t, R.ite_f, List.getElem?_cons_zero, List.getElem?_cons_succ, List.set_cons_zero, List.set_cons_succ, List.map_cons, List.map_nil, List.cons_append, List.nil_append, List.replicate_succ, List.replicate_zero, k2_s, k3_s, insK_s, strK_s, mlK_s, optF_s, joinO_s, v_gp, v_gq, fldO_s, v_gf, setO_s, v_gs, optR_s, al_n, al_c, pi_t, pi_f, pi_n, wi_n, wi_c,
  add_i, sub_i, mod_i, div_i, pow_60, pow_18, lt_i, le_i, gt_i, ge_i, mul_i, is_n, nis_n, is_i, nis_i, is_t, nis_t, ix_t, ix_l, ix_s, set0, set1, set2, len_t, len_l, len_s, abs_i, int_i, int_b, sl_l, sl_t, fz_l, fz_t, fz_d, fz_i, seq_t, seq_l, zip_l, zip_t, enum_l, tuple_l, tuple_t, list_l, list_t, neg_i, isa_isInt_non, isa_isInt_bl, isa_isInt_int, isa_isInt_str, isa_isInt_tup, isa_isInt_lst, isa_isInt_scr, isa_isInt_dct, isa_isBool_non, isa_isBool_bl, isa_isBool_int, isa_isBool_str, isa_isBool_tup, isa_isBool_lst, isa_isBool_scr, isa_isBool_dct, isa_isStr_non, isa_isStr_bl, isa_isStr_int, isa_isStr_str, isa_isStr_tup, isa_isStr_lst, isa_isStr_scr, isa_isStr_dct, isa_isTuple_non, isa_isTuple_bl, isa_isTuple_int, isa_isTuple_str, isa_isTuple_tup, isa_isTuple_lst, isa_isTuple_scr, isa_isTuple_dct, isa_isList_non, isa_isList_bl, isa_isList_int, isa_isList_str, isa_isList_tup, isa_isList_lst, isa_isList_scr, isa_isList_dct, isa_isDict_non, isa_isDict_bl, isa_isDict_int, isa_isDict_str, isa_isDict_tup, isa_isDict_lst, isa_isDict_scr, isa_isDict_dct, eq_i, ne_i, eq_s, ne_s, fzn_1, fzn_2, fzn_3, fzn_4, fzn_5, fzn_6, fzn_7, fzn_8, fzn_9, fzn_s, fznL_n, fznL_c, fznK_n, fznK_c, fznF_n, fznF_c, sz0, sz1, sz2, sz3, sz4, sz5, sz6, sz7, sz8, pk1, pk2, pk3, pk4, fzL_n, fzL_c, fz_int, fz_bl, fz_str, fz_non, putD_n, putD_c, at0, at1, at2, at3, ix0, ix1, ix2, Bool.not_true, Bool.not_false, Bool.true_and, Bool.and_true, Bool.false_and, Bool.and_false, Bool.or_true, Bool.true_or, Bool.false_or, Bool.or_false, if_true, if_false, Bool.false_eq_true, decide_true, decide_false, and_self, and_true, true_and, not_true_eq_false, not_false_eq_true, ne_eq, false_and, and_false, eq_self])
local macro_rules | `(tactic| walk_at "env") => `(tactic| simp only [List.map_cons, List.map_nil, List.cons_append, List.nil_append, List.replicate_succ, List.replicate_zero])
local macro_rules | `(tactic| walk_at "ew") => `(tactic| simp -dsimp only [*, b_bo, b_b0, v_bo, v_b0, v_c, v_v, v_mv, v_vk, v_k, v_fk, v_nil, v_cons, v_1, v_2, v_L, v_bB, asB_b, v_bAnd, v_bOr, v_bNot, v_bYes, v_if, v_and, v_or, v_not, v_tup, v_lst, v_fld, asI_i, v_oN, v_oS, optI_i, v_sl, v_rg1, v_rg2, v_lrg, v_trg, chainK_b, v_chain,
  Fl.k_nx, Fl.k_rt, Fl.k_bk, Fl.k_ct, v_seq, v_pass, v_bk, v_ct, v_ret, v_retN, v_expr, v_sif, v_asg, optE_s, v_gN, v_gT, v_gsN, v_gsC, Option.bind_some, v_par, v_par3, v_aug, v_put, v_sfld, v_for, optL_s, v_iSeq, v_iOf, v_iStr, v_lc, v_mList, Rf.back_ok, optP_s, v_callF, v_call, v_aN, v_aE, v_aI, v_fN, v_fE, v_fI, optD_s, Option.map_some,
  v_kN, v_kE, v_kI, v_methE, v_methI, Rf.newB_ok, v_new, fin_rt, fin_nx, getR_s, liftK_s, R.ite_t, R.ite_f, List.getElem?_cons_zero, List.getElem?_cons_succ, List.set_cons_zero, List.set_cons_succ, List.map_cons, List.map_nil, List.cons_append, List.nil_append, List.replicate_succ, List.replicate_zero, k2_s, k3_s, insK_s, strK_s, mlK_s, optF_s, joinO_s, v_gp, v_gq, fldO_s, v_gf, setO_s, v_gs, optR_s, al_n, al_c, pi_t, pi_f, pi_n, wi_n, wi_c,
  add_i, sub_i, mod_i, div_i, pow_60, pow_18, lt_i, le_i, gt_i, ge_i, mul_i, is_n, nis_n, is_i, nis_i, is_t, nis_t, ix_t, ix_l, ix_s, set0, set1, set2, len_t, len_l, len_s, abs_i, int_i, int_b, sl_l, sl_t, fz_l, fz_t, fz_d, fz_i, seq_t, seq_l, zip_l, zip_t, enum_l, tuple_l, tuple_t, list_l, list_t, neg_i, isa_isInt_non, isa_isInt_bl, isa_isInt_int, isa_isInt_str, isa_isInt_tup, isa_isInt_lst, isa_isInt_scr, isa_isInt_dct, isa_isBool_non, isa_isBool_bl, isa_isBool_int, isa_isBool_str, isa_isBool_tup, isa_isBool_lst, isa_isBool_scr, isa_isBool_dct, isa_isStr_non, isa_isStr_bl, isa_isStr_int, isa_isStr_str, isa_isStr_tup, isa_isStr_lst, isa_isStr_scr, isa_isStr_dct, isa_isTuple_non, isa_isTuple_bl, isa_isTuple_int, isa_isTuple_str, isa_isTuple_tup, isa_isTuple_lst, isa_isTuple_scr, isa_isTuple_dct, isa_isList_non, isa_isList_bl, isa_isList_int, isa_isList_str, isa_isList_tup, isa_isList_lst, isa_isList_scr, isa_isList_dct, isa_isDict_non, isa_isDict_bl, isa_isDict_int, isa_isDict_str, isa_isDict_tup, isa_isDict_lst, isa_isDict_scr, isa_isDict_dct, eq_i, ne_i, eq_s, ne_s, fzn_1, fzn_2, fzn_3, fzn_4, fzn_5, fzn_6, fzn_7, fzn_8, fzn_9, fzn_s, fznL_n, fznL_c, fznK_n, fznK_c, fznF_n, fznF_c, sz0, sz1, sz2, sz3, sz4, sz5, sz6, sz7, sz8, pk1, pk2, pk3, pk4, fzL_n, fzL_c, fz_int, fz_bl, fz_str, fz_non, putD_n, putD_c, at0, at1, at2, at3, ix0, ix1, ix2, Bool.not_true, Bool.not_false, Bool.true_and, Bool.and_true, Bool.false_and, Bool.and_false, Bool.or_true, Bool.true_or, Bool.false_or, Bool.or_false, if_true, if_false, Bool.false_eq_true, decide_true, decide_false, and_self, and_true, true_and, not_true_eq_false, not_false_eq_true, ne_eq, false_and, and_false, eq_self, v_parN, po2, po3, po4, se_n, se_c, v_gUL, v_dnew, fi2_i, gdiv_i, gadd_i, x_bL, x_back, fin_x, v_clE, v_clB, v_clS, nx_ok, v_raise, tryK_ok, tryK_ex, v_try, hdM_s, hdM_n, v_hd, v_cb, v_cbx, v_xf, asX_e, v_d1, lk_hit, v_mkXL, v_mkN, fzn_exn, fz_exn, fzF_n, fzF_c, v_m1s, strM_s])
local macro_rules | `(tactic| push_cast [$ls,*]) => `(tactic| simp -dsimp only [$ls,*, b_bo, b_b0, v_bo, v_b0, v_c, v_v, v_mv, v_vk, v_k, v_fk, v_nil, v_cons, v_1, v_2, v_L, v_bB, asB_b, v_bAnd, v_bOr, v_bNot, v_bYes, v_if, v_and, v_or, v_not, v_tup, v_lst, v_fld, asI_i, v_oN, v_oS, optI_i, v_sl, v_rg1, v_rg2, v_lrg, v_trg, chainK_b, v_chain,
  Fl.k_nx, Fl.k_rt, Fl.k_bk, Fl.k_ct, v_seq, v_pass, v_bk, v_ct, v_ret, v_retN, v_expr, v_sif, v_asg, optE_s, v_gN, v_gT, v_gsN, v_gsC, Option.bind_some, v_par, v_par3, v_aug, v_put, v_sfld, v_for, optL_s, v_iSeq, v_iOf, v_iStr, v_lc, v_mList, Rf.back_ok, optP_s, v_callF, v_call, v_aN, v_aE, v_aI, v_fN, v_fE, v_fI, optD_s, Option.map_some,
  v_kN, v_kE, v_kI, v_methE, v_methI, Rf.newB_ok, v_new, fin_rt, fin_nx, getR_s, liftK_s, R.ite_t, R.ite_f, List.getElem?_cons_zero, List.getElem?_cons_succ, List.set_cons_zero, List.set_cons_succ, List.map_cons, List.map_nil, List.cons_append, List.nil_append, List.replicate_succ, List.replicate_zero, k2_s, k3_s, insK_s, strK_s, mlK_s, optF_s, joinO_s, v_gp, v_gq, fldO_s, v_gf, setO_s, v_gs, optR_s, al_n, al_c, pi_t, pi_f, pi_n, wi_n, wi_c,
  add_i, sub_i, mod_i, div_i, pow_60, pow_18, lt_i, le_i, gt_i, ge_i, mul_i, is_n, nis_n, is_i, nis_i, is_t, nis_t, ix_t, ix_l, ix_s, set0, set1, set2, len_t, len_l, len_s, abs_i, int_i, int_b, sl_l, sl_t, fz_l, fz_t, fz_d, fz_i, seq_t, seq_l, zip_l, zip_t, enum_l, tuple_l, tuple_t, list_l, list_t, neg_i, isa_isInt_non, isa_isInt_bl, isa_isInt_int, isa_isInt_str, isa_isInt_tup, isa_isInt_lst, isa_isInt_scr, isa_isInt_dct, isa_isBool_non, isa_isBool_bl, isa_isBool_int, isa_isBool_str, isa_isBool_tup, isa_isBool_lst, isa_isBool_scr, isa_isBool_dct, isa_isStr_non, isa_isStr_bl, isa_isStr_int, isa_isStr_str, isa_isStr_tup, isa_isStr_lst, isa_isStr_scr, isa_isStr_dct, isa_isTuple_non, isa_isTuple_bl, isa_isTuple_int, isa_isTuple_str, isa_isTuple_tup, isa_isTuple_lst, isa_isTuple_scr, isa_isTuple_dct, isa_isList_non, isa_isList_bl, isa_isList_int, isa_isList_str, isa_isList_tup, isa_isList_lst, isa_isList_scr, isa_isList_dct, isa_isDict_non, isa_isDict_bl, isa_isDict_int, isa_isDict_str, isa_isDict_tup, isa_isDict_lst, isa_isDict_scr, isa_isDict_dct, eq_i, ne_i, eq_s, ne_s, fzn_1, fzn_2, fzn_3, fzn_4, fzn_5, fzn_6, fzn_7, fzn_8, fzn_9, fzn_s, fznL_n, fznL_c, fznK_n, fznK_c, fznF_n, fznF_c, sz0, sz1, sz2, sz3, sz4, sz5, sz6, sz7, sz8, pk1, pk2, pk3, pk4, fzL_n, fzL_c, fz_int, fz_bl, fz_str, fz_non, putD_n, putD_c, at0, at1, at2, at3, ix0, ix1, ix2, Bool.not_true, Bool.not_false, Bool.true_and, Bool.and_true, Bool.false_and, Bool.and_false, Bool.or_true, Bool.true_or, Bool.false_or, Bool.or_false, if_true, if_false, Bool.false_eq_true, decide_true, decide_false, and_self, and_true, true_and, not_true_eq_false, not_false_eq_true, ne_eq, false_and, and_false, eq_self, v_parN, po2, po3, po4, se_n, se_c, v_gUL, v_dnew, fi2_i, gdiv_i, gadd_i, x_bL, x_back, fin_x, v_clE, v_clB, v_clS, nx_ok, v_raise, tryK_ok, tryK_ex, v_try, hdM_s, hdM_n, v_hd, v_cb, v_cbx, v_xf, asX_e, v_d1, lk_hit, v_mkXL, v_mkN, fzn_exn, fz_exn, fzF_n, fzF_c, v_m1s, strM_s])
section
open TL (tl tl_append ext_tl len_tl mk_tl tl_ofString tl_join join_eq split_spl kind_ok numL tl_num numL_digits numL_ne numL_val numL_free numL_len)
/-! ### words as numbers -/
def numW (m : Nat) (w : Str) : Option Nat := if 1 ≤ w.length ∧ w.length ≤ m ∧ (tl w).all isDg = true ∧ ¬ (2 ≤ w.length ∧ (tl w).head? = some 48) then some (NumText.digitsVal (tl w)) else none
abbrev zS : Str := PySem.Str.ofString "0"
theorem tl_zS : tl zS = [48] := by rw [tl_ofString]; rfl
theorem fin_dg {c : Nat} : fIn (.str ⟨#[c]⟩) (.str DG) = some (.bl (isDg c)) := by
  show some (D.bl (decide (c ∈ DG.cps.toList))) = _
  congr 2
  unfold isDg
  rw [← Bool.decide_and]
  exact decide_eq_decide.mpr mem_DG
theorem ints_ok {w : Str} (h : (tl w).all isDg = true) (h1 : 1 ≤ w.length) (h2 : w.length ≤ 640) : fIntS [.str w] = some (.int (NumText.digitsVal (tl w) : Nat)) := by
  have hd : NumText.AllDigits w.cps.toList := fun c hc => by
    have := List.all_eq_true.mp h c hc
    unfold isDg at this
    rw [Bool.and_eq_true] at this
    exact ⟨of_decide_eq_true this.1, of_decide_eq_true this.2⟩
  have hlen := len_tl w
  have hne : w.cps.toList ≠ [] := fun q => by
    have : (tl w).length = 0 := by show w.cps.toList.length = 0; rw [q]; rfl
    omega
  have e := PySem.intText_digits hd hne (by omega)
  show (match PySem.intText? w with | some n => if w.length ≤ 640 then some (D.int n) else none | none => none) = _
  rw [e]
  exact if_pos h2
theorem ix_head {w : Str} {c : Nat} {r : List Nat} (h : tl w = c :: r) (hl : w.length ≤ 100000) : fIx (.str w) (.int 0) = some (.str ⟨#[c]⟩) := by
  show (if w.length ≤ sizeLine then (atI w.cps.toList 0).map fun c => D.str ⟨#[c]⟩ else none) = _
  rw [if_pos (Nat.le_trans hl (by decide)), show w.cps.toList = c :: r from h, at0]
  rfl
theorem len_str {x : Str} (h : x.length ≤ 100000) : fLen [.str x] = some (.int (x.length : Nat)) := if_pos (Nat.le_trans h (by decide))
theorem eq_strs {x y : Str} : fEq2 (.str x) (.str y) = some (.bl (decide (x = y))) := rfl
theorem ne_strs2 {x y : Str} : fNe2 (.str x) (.str y) = some (.bl (!decide (x = y))) := rfl
theorem one_z {c : Nat} : ((⟨#[c]⟩ : Str) = zS) ↔ c = 48 := by
  constructor
  · intro h
    have := congrArg tl h
    rw [tl_zS] at this
    have e : [c] = [48] := this
    exact (List.cons.inj e).1
  · rintro rfl
    exact ext_tl tl_zS.symm
section
variable {w : Str} {m : Nat}
theorem num_cp {x2 : Option D} (hl : w.length ≤ 100000) : cp_number_in_1 [some (.str w), some (.int (m : Nat)), x2] = .ok (.lst true ((tl w).map fun c => .bl (isDg c))) [some (.str w), some (.int (m : Nat)), none] := by
  have hlen := len_tl w
  unfold cp_number_in_1
  refine eLc_map (tl w) (fun c : Nat => .str ⟨#[c]⟩) _ (e := [some (.str w), some (.int (m : Nat)), x2]) ?_ rfl (Nat.le_trans (by omega : (tl w).length ≤ 100000) (by decide)) fun c _ => ⟨[some (.str w), some (.int (m : Nat)), some (.str ⟨#[c]⟩)], rfl, ?_, rfl⟩
  · rw [v_iStr, v_v]
    rfl
  · have := @fin_dg c
    unfold ce_number_in_1
    clear hlen hl
    walk_at "ew"
theorem number_spec (hl : w.length ≤ 100000) (hm : m ≤ 600) : m_number_in [.str w, .int (m : Nat)] = .ok (oI (numW m w)) [] := by
  have hcp := num_cp (w := w) (m := m) (x2 := none) hl
  have hal := all_bb (o := true) (l := tl w) (f := isDg)
  have hls := len_str hl
  have hlen := len_tl w
  unfold m_number_in b_number_in
  rw [v_fn]
  walk_at "env"
  by_cases h1 : 1 ≤ w.length
  case neg =>
    have hn : numW m w = none := if_neg fun q => h1 q.1
    have c1 : decide ((1 : Int) ≤ (w.length : Nat)) = false := decide_eq_false (by omega)
    rw [hn, show oI none = D.non from rfl]
    push_cast [hls, c1]
  case pos =>
  have c1 : decide ((1 : Int) ≤ (w.length : Nat)) = true := decide_eq_true (by omega)
  by_cases h2 : w.length ≤ m
  case neg =>
    have hn : numW m w = none := if_neg fun q => h2 q.2.1
    have c2 : decide (((w.length : Nat) : Int) ≤ (m : Nat)) = false := decide_eq_false (by omega)
    rw [hn, show oI none = D.non from rfl]
    push_cast [hls, c1, c2]
  case pos =>
  have c2 : decide (((w.length : Nat) : Int) ≤ (m : Nat)) = true := decide_eq_true (by omega)
  by_cases h3 : (tl w).all isDg = true
  case neg =>
    have hn : numW m w = none := if_neg fun q => h3 q.2.2.1
    rw [show (tl w).all isDg = false by simpa using h3] at hal
    rw [hn, show oI none = D.non from rfl]
    push_cast [hls, c1, c2, hcp, hal]
  case pos =>
  rw [h3] at hal
  obtain ⟨c, r, hw⟩ : ∃ c r, tl w = c :: r := by
    cases q : tl w with
    | nil => rw [q] at hlen; simp only [List.length_nil] at hlen; omega
    | cons c r => exact ⟨c, r, rfl⟩
  have hix := ix_head hw hl
  have e1 : fEq2 (.str ⟨#[c]⟩) (.str zS) = some (.bl (decide (c = 48))) := by
    rw [eq_strs]
    congr 2
    exact decide_eq_decide.mpr one_z
  have e2 : fNe2 (.str w) (.str zS) = some (.bl (!decide (w = zS))) := ne_strs2
  have hi := ints_ok h3 h1 (by omega)
  by_cases h4 : c = 48
  · rw [decide_eq_true h4] at e1
    by_cases h5 : w = zS
    · have hn : numW m w = some (NumText.digitsVal (tl w)) := if_pos ⟨h1, h2, h3, fun q => by
        have : (tl w).length = 1 := by rw [h5, tl_zS]; rfl
        omega⟩
      rw [decide_eq_true h5] at e2
      rw [hn, show oI (some (NumText.digitsVal (tl w))) = D.int (NumText.digitsVal (tl w) : Nat) from rfl]
      push_cast [hls, c1, c2, hcp, hal, hix, e1, e2, hi]
    · have hn : numW m w = none := if_neg fun q => q.2.2.2 ⟨by
        refine Classical.byContradiction fun hlt => h5 ?_
        have hr : r = [] := by
          have e : (tl w).length = r.length + 1 := by rw [hw]; rfl
          exact List.length_eq_zero_iff.mp (by omega)
        exact ext_tl (by rw [hw, hr, tl_zS, h4]), by rw [hw, h4]; rfl⟩
      rw [decide_eq_false h5] at e2
      rw [hn, show oI none = D.non from rfl]
      push_cast [hls, c1, c2, hcp, hal, hix, e1, e2]
  · have hn : numW m w = some (NumText.digitsVal (tl w)) := if_pos ⟨h1, h2, h3, fun q => by
      rw [hw] at q
      exact h4 (Option.some.inj q.2)⟩
    rw [decide_eq_false h4] at e1
    rw [hn, show oI (some (NumText.digitsVal (tl w))) = D.int (NumText.digitsVal (tl w) : Nat) from rfl]
    push_cast [hls, c1, c2, hcp, hal, hix, e1, hi]
/-- the law's own reading of a word: -1 for none -/
def lnW (m : Nat) (w : Str) : Int := match numW m w with | some v => (v : Int) | none => -1
theorem lnumber_spec (hl : w.length ≤ 100000) (hm : m ≤ 600) : m_l_number [.str w, .int (m : Nat)] = .ok (.int (lnW m w)) [] := by
  have hls := len_str hl
  have hlen := len_tl w
  have ng : fNeg (.int 1) = some (.int (-1)) := rfl
  have hst : fStripC w (.str DG) = some (.str (Txt.stripChars w DG)) := if_pos (Nat.le_trans hl (by decide))
  have e0 : fNe2 (.str (Txt.stripChars w DG)) (.str eS) = some (.bl (!((tl w).all isDg))) := by
    rw [ne_strs2]
    congr 3
    have : (Txt.stripChars w DG = eS) ↔ (tl w).all isDg = true := strip_dg.trans (by rw [List.all_eq_true])
    cases h : (tl w).all isDg with
    | true => exact decide_eq_true (this.mpr h)
    | false => exact decide_eq_false fun q => by rw [this.mp q] at h; cases h
  unfold m_l_number b_l_number
  rw [v_fn]
  walk_at "env"
  by_cases h1 : 1 ≤ w.length
  case neg =>
    have hn : lnW m w = -1 := by unfold lnW numW; rw [if_neg fun q => h1 q.1]
    have c1 : decide ((1 : Int) ≤ (w.length : Nat)) = false := decide_eq_false (by omega)
    rw [hn]
    push_cast [hls, c1, ng]
  case pos =>
  have c1 : decide ((1 : Int) ≤ (w.length : Nat)) = true := decide_eq_true (by omega)
  by_cases h2 : w.length ≤ m
  case neg =>
    have hn : lnW m w = -1 := by unfold lnW numW; rw [if_neg fun q => h2 q.2.1]
    have c2 : decide (((w.length : Nat) : Int) ≤ (m : Nat)) = false := decide_eq_false (by omega)
    rw [hn]
    push_cast [hls, c1, c2, ng]
  case pos =>
  have c2 : decide (((w.length : Nat) : Int) ≤ (m : Nat)) = true := decide_eq_true (by omega)
  by_cases h3 : (tl w).all isDg = true
  case neg =>
    have hn : lnW m w = -1 := by unfold lnW numW; rw [if_neg fun q => h3 q.2.2.1]
    rw [show (tl w).all isDg = false by simpa using h3] at e0
    rw [hn]
    push_cast [hls, c1, c2, v_m1s, hst, e0, ng]
  case pos =>
  rw [h3] at e0
  have hi := ints_ok h3 h1 (by omega)
  obtain ⟨c, r, hw⟩ : ∃ c r, tl w = c :: r := by
    cases q : tl w with
    | nil => rw [q] at hlen; simp only [List.length_nil] at hlen; omega
    | cons c r => exact ⟨c, r, rfl⟩
  have hix := ix_head hw hl
  have e1 : fEq2 (.str ⟨#[c]⟩) (.str zS) = some (.bl (decide (c = 48))) := by
    rw [eq_strs]
    congr 2
    exact decide_eq_decide.mpr one_z
  by_cases h4 : 1 < w.length
  · have c4 : ((w.length : Nat) : Int) > 1 := by omega
    by_cases h5 : c = 48
    · have hn : lnW m w = -1 := by unfold lnW numW; rw [if_neg fun q => q.2.2.2 ⟨h4, by rw [hw, h5]; rfl⟩]
      rw [decide_eq_true h5] at e1
      rw [hn]
      push_cast [hls, c1, c2, v_m1s, hst, e0, c4, hix, e1, ng]
    · have hn : lnW m w = (NumText.digitsVal (tl w) : Nat) := by unfold lnW numW; rw [if_pos ⟨h1, h2, h3, fun q => by rw [hw] at q; exact h5 (Option.some.inj q.2)⟩]
      rw [decide_eq_false h5] at e1
      rw [hn]
      push_cast [hls, c1, c2, v_m1s, hst, e0, c4, hix, e1, hi]
  · have c4 : ¬ ((w.length : Nat) : Int) > 1 := by omega
    have hn : lnW m w = (NumText.digitsVal (tl w) : Nat) := by unfold lnW numW; rw [if_pos ⟨h1, h2, h3, fun q => by omega⟩]
    rw [hn]
    push_cast [hls, c1, c2, v_m1s, hst, e0, c4, hi]
end
end
end Mi
set_option maxHeartbeats 4000000
set_option exponentiation.threshold 100000
namespace Mi
open PySem PySem.Spec PyProof.Rows L2 RZ Ov PpSet
local macro_rules | `(tactic| walk_at "ev") => `(tactic| simp -dsimp only [*, b_bo, b_b0, v_bo, v_b0, v_c, v_v, v_mv, v_vk, v_k, v_fk, v_nil, v_cons, v_1, v_2, v_L, v_bB, asB_b, v_bAnd, v_bOr, v_bNot, v_bYes, v_if, v_and, v_or, v_not, v_tup, v_lst, v_fld, asI_i, v_oN, v_oS, optI_i, v_sl, v_rg1, v_rg2, v_lrg, v_trg, chainK_b, v_chain,
  Fl.k_nx, Fl.k_rt, Fl.k_bk, Fl.k_ct, v_seq, v_pass, v_bk, v_ct, v_ret, v_retN, v_expr, v_sif, v_asg, optE_s, v_gN, v_gT, v_gsN, v_gsC, Option.bind_some, v_par, v_par3, v_aug, v_put, v_sfld, v_for, optL_s, v_iSeq, v_iOf, v_iStr, v_lc, v_mList, Rf.back_ok, optP_s, v_callF, v_call, v_aN, v_aE, v_aI, v_fN, v_fE, v_fI, optD_s, Option.map_some,
  v_kN, v_kE, v_kI, v_methE, v_methI, Rf.newB_ok, v_new, fin_rt, fin_nx, getR_s, liftK_s, R.ite_t, R.ite_f, List.getElem?_cons_zero, List.getElem?_cons_succ, List.set_cons_zero, List.set_cons_succ, List.map_cons, List.map_nil, List.cons_append, List.nil_append, List.replicate_succ, List.replicate_zero, k2_s, k3_s, insK_s, strK_s, mlK_s, optF_s, joinO_s, v_gp, v_gq, fldO_s, v_gf, setO_s, v_gs, optR_s, al_n, al_c, pi_t, pi_f, pi_n, wi_n, wi_c,
  add_i, sub_i, mod_i, div_i, pow_60, pow_18, lt_i, le_i, gt_i, ge_i, mul_i, is_n, nis_n, is_i, nis_i, is_t, nis_t, ix_t, ix_l, ix_s, set0, set1, set2, len_t, len_l, len_s, abs_i, int_i, int_b, sl_l, sl_t, fz_l, fz_t, fz_d, fz_i, seq_t, seq_l, zip_l, zip_t, enum_l, tuple_l, tuple_t, list_l, list_t, neg_i, isa_isInt_non, isa_isInt_bl, isa_isInt_int, isa_isInt_str, isa_isInt_tup, isa_isInt_lst, isa_isInt_scr, isa_isInt_dct, isa_isBool_non, isa_isBool_bl, isa_isBool_int, isa_isBool_str, isa_isBool_tup, isa_isBool_lst, isa_isBool_scr, isa_isBool_dct, isa_isStr_non, isa_isStr_bl, isa_isStr_int, isa_isStr_str, isa_isStr_tup, isa_isStr_lst, isa_isStr_scr, isa_isStr_dct, isa_isTuple_non, isa_isTuple_bl, isa_isTuple_int, isa_isTuple_str, isa_isTuple_tup, isa_isTuple_lst, isa_isTuple_scr, isa_isTuple_dct, isa_isList_non, isa_isList_bl, isa_isList_int, isa_isList_str, isa_isList_tup, isa_isList_lst, isa_isList_scr, isa_isList_dct, isa_isDict_non, isa_isDict_bl, isa_isDict_int, isa_isDict_str, isa_isDict_tup, isa_isDict_lst, isa_isDict_scr, isa_isDict_dct, eq_i, ne_i, eq_s, ne_s, fzn_1, fzn_2, fzn_3, fzn_4, fzn_5, fzn_6, fzn_7, fzn_8, fzn_9, fzn_s, fznL_n, fznL_c, fznK_n, fznK_c, fznF_n, fznF_c, sz0, sz1, sz2, sz3, sz4, sz5, sz6, sz7, sz8, pk1, pk2, pk3, pk4, fzL_n, fzL_c, fz_int, fz_bl, fz_str, fz_non, putD_n, putD_c, at0, at1, at2, at3, ix0, ix1, ix2, Bool.not_true, Bool.not_false, Bool.true_and, Bool.and_true, Bool.false_and, Bool.and_false, Bool.or_true, Bool.true_or, Bool.false_or, Bool.or_false, if_true, if_false, Bool.false_eq_true, decide_true, decide_false, and_self, and_true, true_and, not_true_eq_false, not_false_eq_true, ne_eq, false_and, and_false, eq_self])
local macro_rules | `(tactic| walk_at "env") => `(tactic| simp only [List.map_cons, List.map_nil, List.cons_append, List.nil_append, List.replicate_succ, List.replicate_zero])
local macro_rules | `(tactic| walk_at "ew") => `(tactic| simp -dsimp only [*, b_bo, b_b0, v_bo, v_b0, v_c, v_v, v_mv, v_vk, v_k, v_fk, v_nil, v_cons, v_1, v_2, v_L, v_bB, asB_b, v_bAnd, v_bOr, v_bNot, v_bYes, v_if, v_and, v_or, v_not, v_tup, v_lst, v_fld, asI_i, v_oN, v_oS, optI_i, v_sl, v_rg1, v_rg2, v_lrg, v_trg, chainK_b, v_chain,
  Fl.k_nx, Fl.k_rt, Fl.k_bk, Fl.k_ct, v_seq, v_pass, v_bk, v_ct, v_ret, v_retN, v_expr, v_sif, v_asg, optE_s, v_gN, v_gT, v_gsN, v_gsC, Option.bind_some, v_par, v_par3, v_aug, v_put, v_sfld, v_for, optL_s, v_iSeq, v_iOf, v_iStr, v_lc, v_mList, Rf.back_ok, optP_s, v_callF, v_call, v_aN, v_aE, v_aI, v_fN, v_fE, v_fI, optD_s, Option.map_some,
  v_kN, v_kE, v_kI, v_methE, v_methI, Rf.newB_ok, v_new, fin_rt, fin_nx, getR_s, liftK_s, R.ite_t, R.ite_f, List.getElem?_cons_zero, List.getElem?_cons_succ, List.set_cons_zero, List.set_cons_succ, List.map_cons, List.map_nil, List.cons_append, List.nil_append, List.replicate_succ, List.replicate_zero, k2_s, k3_s, insK_s, strK_s, mlK_s, optF_s, joinO_s, v_gp, v_gq, fldO_s, v_gf, setO_s, v_gs, optR_s, al_n, al_c, pi_t, pi_f, pi_n, wi_n, wi_c,
  add_i, sub_i, mod_i, div_i, pow_60, pow_18, lt_i, le_i, gt_i, ge_i, mul_i, is_n, nis_n, is_i, nis_i, is_t, nis_t, ix_t, ix_l, ix_s, set0, set1, set2, len_t, len_l, len_s, abs_i, int_i, int_b, sl_l, sl_t, fz_l, fz_t, fz_d, fz_i, seq_t, seq_l, zip_l, zip_t, enum_l, tuple_l, tuple_t, list_l, list_t, neg_i, isa_isInt_non, isa_isInt_bl, isa_isInt_int, isa_isInt_str, isa_isInt_tup, isa_isInt_lst, isa_isInt_scr, isa_isInt_dct, isa_isBool_non, isa_isBool_bl, isa_isBool_int, isa_isBool_str, isa_isBool_tup, isa_isBool_lst, isa_isBool_scr, isa_isBool_dct, isa_isStr_non, isa_isStr_bl, isa_isStr_int, isa_isStr_str, isa_isStr_tup, isa_isStr_lst, isa_isStr_scr, isa_isStr_dct, isa_isTuple_non, isa_isTuple_bl, isa_isTuple_int, isa_isTuple_str, isa_isTuple_tup, isa_isTuple_lst, isa_isTuple_scr, isa_isTuple_dct, isa_isList_non, isa_isList_bl, isa_isList_int, isa_isList_str, isa_isList_tup, isa_isList_lst, isa_isList_scr, isa_isList_dct, isa_isDict_non, isa_isDict_bl, isa_isDict_int, isa_isDict_str, isa_isDict_tup, isa_isDict_lst, isa_isDict_scr, isa_isDict_dct, eq_i, ne_i, eq_s, ne_s, fzn_1, fzn_2, fzn_3, fzn_4, fzn_5, fzn_6, fzn_7, fzn_8, fzn_9, fzn_s, fznL_n, fznL_c, fznK_n, fznK_c, fznF_n, fznF_c, sz0, sz1, sz2, sz3, sz4, sz5, sz6, sz7, sz8, pk1, pk2, pk3, pk4, fzL_n, fzL_c, fz_int, fz_bl, fz_str, fz_non, putD_n, putD_c, at0, at1, at2, at3, ix0, ix1, ix2, Bool.not_true, Bool.not_false, Bool.true_and, Bool.and_true, Bool.false_and, Bool.and_false, Bool.or_true, Bool.true_or, Bool.false_or, Bool.or_false, if_true, if_false, Bool.false_eq_true, decide_true, decide_false, and_self, and_true, true_and, not_true_eq_false, not_false_eq_true, ne_eq, false_and, and_false, eq_self, v_parN, po2, po3, po4, se_n, se_c, v_gUL, v_dnew, fi2_i, gdiv_i, gadd_i])
section
/-! ### is_code of any value -/
def isDat : D → Bool
  | .ins _ _ _ => false
  | .set _ => false
  | .scr _ => false
  | .exn _ _ => false
  | .fnc _ _ _ _ _ => false
  | .dcg _ _ => false
  | _ => true
def okI (hi : Int) : D → Bool
  | .int i => decide (0 ≤ i) && decide (i ≤ hi)
  | _ => false
theorem isint_any {hi : Int} {d : D} (hd : isDat d = true) : m_is_integer [d, .int 0, .int hi] = .ok (.bl (okI hi d)) [] := by
  unfold m_is_integer b_is_integer
  rw [v_fn]
  cases d with
  | non => walk_at "ew"; rfl
  | bl b => walk_at "ew"; rfl
  | str x => walk_at "ew"; rfl
  | tup x => walk_at "ew"; rfl
  | lst o x => walk_at "ew"; rfl
  | dct o x => walk_at "ew"; rfl
  | int i =>
    show _ = Rf.ok (.bl (decide (0 ≤ i) && decide (i ≤ hi))) []
    by_cases h : 0 ≤ i
    · walk_at "ew"
    · walk_at "ew"
  | ins o c f => cases hd
  | set x => cases hd
  | scr x => cases hd
  | exn c f => cases hd
  | fnc a b c d e => cases hd
  | dcg a b => cases hd
theorem is_code_tup {c : Nat} {rs : List Row} {ds : List D} (hd : ∀ d ∈ ds, isDat d = true) (hz : fznL ds = true) (hl : ds.length ≤ 6000) : m_is_code [machD false c rs, .tup ds] = .ok (.bl (ds.all (okI ((c : Int) - 1)))) [] := by
  have hzm := fzn_mach (c := c) (rs := rs)
  have f1 := @fld_bc c rs false
  have hz2 := fz_sameL _ hz
  have hc : cp_is_code_1 [some (machD false c rs), some (.tup ds), none] = .ok (.lst true (ds.map fun d => .bl (okI ((c : Int) - 1) d))) [some (machD false c rs), some (.tup ds), none] := by
    unfold cp_is_code_1
    refine eLc_map ds id _ (e := [some (machD false c rs), some (.tup ds), none]) ?_ rfl (Nat.le_trans hl (by decide)) fun d hdm => ⟨[some (machD false c rs), some (.tup ds), some d], rfl, ?_, rfl⟩
    · rw [List.map_id]
      clear hd hl f1
      walk_at "ew"
    · have h1 := isint_any (hi := (c : Int) - 1) (hd d hdm)
      have h2 : fzn d = true := by
        have := List.all_eq_true.mp (show ds.all fzn = true from ?_) d hdm
        · exact this
        · clear hd hl f1 hz2 h1 hdm
          induction ds with
          | nil => rfl
          | cons a ds ih => rw [fznL, Bool.and_eq_true] at hz; rw [List.all_cons, hz.1, ih hz.2]; rfl
      clear hd hl hz hz2 hdm
      unfold ce_is_code_1
      walk_at "ew"
  have ha := all_bb (o := true) (l := ds) (f := okI ((c : Int) - 1))
  generalize (ds.map fun d => D.bl (okI ((c : Int) - 1) d)) = T1 at *
  generalize ds.all (okI ((c : Int) - 1)) = B at *
  clear hd hl hz hz2 f1
  unfold m_is_code b_is_code
  rw [v_fn]
  walk_at "ew"
/-! ### what is asked of a value -/
/-! ### deep values -/
end
end Mi
set_option maxHeartbeats 4000000
set_option exponentiation.threshold 100000
namespace Mi
open PySem PySem.Spec PyProof.Rows L2 RZ Ov PpSet
local macro_rules | `(tactic| walk_at "ev") => `(tactic| simp -dsimp only [*, b_bo, b_b0, v_bo, v_b0, v_c, v_v, v_mv, v_vk, v_k, v_fk, v_nil, v_cons, v_1, v_2, v_L, v_bB, asB_b, v_bAnd, v_bOr, v_bNot, v_bYes, v_if, v_and, v_or, v_not, v_tup, v_lst, v_fld, asI_i, v_oN, v_oS, optI_i, v_sl, v_rg1, v_rg2, v_lrg, v_trg, chainK_b, v_chain,
  Fl.k_nx, Fl.k_rt, Fl.k_bk, Fl.k_ct, v_seq, v_pass, v_bk, v_ct, v_ret, v_retN, v_expr, v_sif, v_asg, optE_s, v_gN, v_gT, v_gsN, v_gsC, Option.bind_some, v_par, v_par3, v_aug, v_put, v_sfld, v_for, optL_s, v_iSeq, v_iOf, v_iStr, v_lc, v_mList, Rf.back_ok, optP_s, v_callF, v_call, v_aN, v_aE, v_aI, v_fN, v_fE, v_fI, optD_s, Option.map_some,
  v_kN, v_kE, v_kI, v_methE, v_methI, Rf.newB_ok, v_new, fin_rt, fin_nx, getR_s, liftK_s, R.ite_t, R.ite_f, List.getElem?_cons_zero, List.getElem?_cons_succ, List.set_cons_zero, List.set_cons_succ, List.map_cons, List.map_nil, List.cons_append, List.nil_append, List.replicate_succ, List.replicate_zero, k2_s, k3_s, insK_s, strK_s, mlK_s, optF_s, joinO_s, v_gp, v_gq, fldO_s, v_gf, setO_s, v_gs, optR_s, al_n, al_c, pi_t, pi_f, pi_n, wi_n, wi_c,
  add_i, sub_i, mod_i, div_i, pow_60, pow_18, lt_i, le_i, gt_i, ge_i, mul_i, is_n, nis_n, is_i, nis_i, is_t, nis_t, ix_t, ix_l, ix_s, set0, set1, set2, len_t, len_l, len_s, abs_i, int_i, int_b, sl_l, sl_t, fz_l, fz_t, fz_d, fz_i, seq_t, seq_l, zip_l, zip_t, enum_l, tuple_l, tuple_t, list_l, list_t, neg_i, isa_isInt_non, isa_isInt_bl, isa_isInt_int, isa_isInt_str, isa_isInt_tup, isa_isInt_lst, isa_isInt_scr, isa_isInt_dct, isa_isBool_non, isa_isBool_bl, isa_isBool_int, isa_isBool_str, isa_isBool_tup, isa_isBool_lst, isa_isBool_scr, isa_isBool_dct, isa_isStr_non, isa_isStr_bl, isa_isStr_int, isa_isStr_str, isa_isStr_tup, isa_isStr_lst, isa_isStr_scr, isa_isStr_dct, isa_isTuple_non, isa_isTuple_bl, isa_isTuple_int, isa_isTuple_str, isa_isTuple_tup, isa_isTuple_lst, isa_isTuple_scr, isa_isTuple_dct, isa_isList_non, isa_isList_bl, isa_isList_int, isa_isList_str, isa_isList_tup, isa_isList_lst, isa_isList_scr, isa_isList_dct, isa_isDict_non, isa_isDict_bl, isa_isDict_int, isa_isDict_str, isa_isDict_tup, isa_isDict_lst, isa_isDict_scr, isa_isDict_dct, eq_i, ne_i, eq_s, ne_s, fzn_1, fzn_2, fzn_3, fzn_4, fzn_5, fzn_6, fzn_7, fzn_8, fzn_9, fzn_s, fznL_n, fznL_c, fznK_n, fznK_c, fznF_n, fznF_c, sz0, sz1, sz2, sz3, sz4, sz5, sz6, sz7, sz8, pk1, pk2, pk3, pk4, fzL_n, fzL_c, fz_int, fz_bl, fz_str, fz_non, putD_n, putD_c, at0, at1, at2, at3, ix0, ix1, ix2, Bool.not_true, Bool.not_false, Bool.true_and, Bool.and_true, Bool.false_and, Bool.and_false, Bool.or_true, Bool.true_or, Bool.false_or, Bool.or_false, if_true, if_false, Bool.false_eq_true, decide_true, decide_false, and_self, and_true, true_and, not_true_eq_false, not_false_eq_true, ne_eq, false_and, and_false, eq_self])
local macro_rules | `(tactic| walk_at "env") => `(tactic| simp only [List.map_cons, List.map_nil, List.cons_append, List.nil_append, List.replicate_succ, List.replicate_zero])
local macro_rules | `(tactic| walk_at "ew") => `(tactic| simp -dsimp only [*, b_bo, b_b0, v_bo, v_b0, v_c, v_v, v_mv, v_vk, v_k, v_fk, v_nil, v_cons, v_1, v_2, v_L, v_bB, asB_b, v_bAnd, v_bOr, v_bNot, v_bYes, v_if, v_and, v_or, v_not, v_tup, v_lst, v_fld, asI_i, v_oN, v_oS, optI_i, v_sl, v_rg1, v_rg2, v_lrg, v_trg, chainK_b, v_chain,
  Fl.k_nx, Fl.k_rt, Fl.k_bk, Fl.k_ct, v_seq, v_pass, v_bk, v_ct, v_ret, v_retN, v_expr, v_sif, v_asg, optE_s, v_gN, v_gT, v_gsN, v_gsC, Option.bind_some, v_par, v_par3, v_aug, v_put, v_sfld, v_for, optL_s, v_iSeq, v_iOf, v_iStr, v_lc, v_mList, Rf.back_ok, optP_s, v_callF, v_call, v_aN, v_aE, v_aI, v_fN, v_fE, v_fI, optD_s, Option.map_some,
  v_kN, v_kE, v_kI, v_methE, v_methI, Rf.newB_ok, v_new, fin_rt, fin_nx, getR_s, liftK_s, R.ite_t, R.ite_f, List.getElem?_cons_zero, List.getElem?_cons_succ, List.set_cons_zero, List.set_cons_succ, List.map_cons, List.map_nil, List.cons_append, List.nil_append, List.replicate_succ, List.replicate_zero, k2_s, k3_s, insK_s, strK_s, mlK_s, optF_s, joinO_s, v_gp, v_gq, fldO_s, v_gf, setO_s, v_gs, optR_s, al_n, al_c, pi_t, pi_f, pi_n, wi_n, wi_c,
  add_i, sub_i, mod_i, div_i, pow_60, pow_18, lt_i, le_i, gt_i, ge_i, mul_i, is_n, nis_n, is_i, nis_i, is_t, nis_t, ix_t, ix_l, ix_s, set0, set1, set2, len_t, len_l, len_s, abs_i, int_i, int_b, sl_l, sl_t, fz_l, fz_t, fz_d, fz_i, seq_t, seq_l, zip_l, zip_t, enum_l, tuple_l, tuple_t, list_l, list_t, neg_i, isa_isInt_non, isa_isInt_bl, isa_isInt_int, isa_isInt_str, isa_isInt_tup, isa_isInt_lst, isa_isInt_scr, isa_isInt_dct, isa_isBool_non, isa_isBool_bl, isa_isBool_int, isa_isBool_str, isa_isBool_tup, isa_isBool_lst, isa_isBool_scr, isa_isBool_dct, isa_isStr_non, isa_isStr_bl, isa_isStr_int, isa_isStr_str, isa_isStr_tup, isa_isStr_lst, isa_isStr_scr, isa_isStr_dct, isa_isTuple_non, isa_isTuple_bl, isa_isTuple_int, isa_isTuple_str, isa_isTuple_tup, isa_isTuple_lst, isa_isTuple_scr, isa_isTuple_dct, isa_isList_non, isa_isList_bl, isa_isList_int, isa_isList_str, isa_isList_tup, isa_isList_lst, isa_isList_scr, isa_isList_dct, isa_isDict_non, isa_isDict_bl, isa_isDict_int, isa_isDict_str, isa_isDict_tup, isa_isDict_lst, isa_isDict_scr, isa_isDict_dct, eq_i, ne_i, eq_s, ne_s, fzn_1, fzn_2, fzn_3, fzn_4, fzn_5, fzn_6, fzn_7, fzn_8, fzn_9, fzn_s, fznL_n, fznL_c, fznK_n, fznK_c, fznF_n, fznF_c, sz0, sz1, sz2, sz3, sz4, sz5, sz6, sz7, sz8, pk1, pk2, pk3, pk4, fzL_n, fzL_c, fz_int, fz_bl, fz_str, fz_non, putD_n, putD_c, at0, at1, at2, at3, ix0, ix1, ix2, Bool.not_true, Bool.not_false, Bool.true_and, Bool.and_true, Bool.false_and, Bool.and_false, Bool.or_true, Bool.true_or, Bool.false_or, Bool.or_false, if_true, if_false, Bool.false_eq_true, decide_true, decide_false, and_self, and_true, true_and, not_true_eq_false, not_false_eq_true, ne_eq, false_and, and_false, eq_self, v_parN, po2, po3, po4, se_n, se_c, v_gUL, v_dnew, fi2_i, gdiv_i, gadd_i, x_bL, x_back, fin_x, v_clE, v_clB, v_clS, nx_ok, v_raise, tryK_ok, tryK_ex, v_try, hdM_s, hdM_n, v_hd, v_cb, v_cbx, v_xf, asX_e, v_d1, lk_hit, v_mkXL, v_mkN, fzn_exn, fz_exn, fzF_n, fzF_c, v_m1s, strM_s])
local macro_rules | `(tactic| push_cast [$ls,*]) => `(tactic| simp -dsimp only [$ls,*, b_bo, b_b0, v_bo, v_b0, v_c, v_v, v_mv, v_vk, v_k, v_fk, v_nil, v_cons, v_1, v_2, v_L, v_bB, asB_b, v_bAnd, v_bOr, v_bNot, v_bYes, v_if, v_and, v_or, v_not, v_tup, v_lst, v_fld, asI_i, v_oN, v_oS, optI_i, v_sl, v_rg1, v_rg2, v_lrg, v_trg, chainK_b, v_chain,
  Fl.k_nx, Fl.k_rt, Fl.k_bk, Fl.k_ct, v_seq, v_pass, v_bk, v_ct, v_ret, v_retN, v_expr, v_sif, v_asg, optE_s, v_gN, v_gT, v_gsN, v_gsC, Option.bind_some, v_par, v_par3, v_aug, v_put, v_sfld, v_for, optL_s, v_iSeq, v_iOf, v_iStr, v_lc, v_mList, Rf.back_ok, optP_s, v_callF, v_call, v_aN, v_aE, v_aI, v_fN, v_fE, v_fI, optD_s, Option.map_some,
  v_kN, v_kE, v_kI, v_methE, v_methI, Rf.newB_ok, v_new, fin_rt, fin_nx, getR_s, liftK_s, R.ite_t, R.ite_f, List.getElem?_cons_zero, List.getElem?_cons_succ, List.set_cons_zero, List.set_cons_succ, List.map_cons, List.map_nil, List.cons_append, List.nil_append, List.replicate_succ, List.replicate_zero, k2_s, k3_s, insK_s, strK_s, mlK_s, optF_s, joinO_s, v_gp, v_gq, fldO_s, v_gf, setO_s, v_gs, optR_s, al_n, al_c, pi_t, pi_f, pi_n, wi_n, wi_c,
  add_i, sub_i, mod_i, div_i, pow_60, pow_18, lt_i, le_i, gt_i, ge_i, mul_i, is_n, nis_n, is_i, nis_i, is_t, nis_t, ix_t, ix_l, ix_s, set0, set1, set2, len_t, len_l, len_s, abs_i, int_i, int_b, sl_l, sl_t, fz_l, fz_t, fz_d, fz_i, seq_t, seq_l, zip_l, zip_t, enum_l, tuple_l, tuple_t, list_l, list_t, neg_i, isa_isInt_non, isa_isInt_bl, isa_isInt_int, isa_isInt_str, isa_isInt_tup, isa_isInt_lst, isa_isInt_scr, isa_isInt_dct, isa_isBool_non, isa_isBool_bl, isa_isBool_int, isa_isBool_str, isa_isBool_tup, isa_isBool_lst, isa_isBool_scr, isa_isBool_dct, isa_isStr_non, isa_isStr_bl, isa_isStr_int, isa_isStr_str, isa_isStr_tup, isa_isStr_lst, isa_isStr_scr, isa_isStr_dct, isa_isTuple_non, isa_isTuple_bl, isa_isTuple_int, isa_isTuple_str, isa_isTuple_tup, isa_isTuple_lst, isa_isTuple_scr, isa_isTuple_dct, isa_isList_non, isa_isList_bl, isa_isList_int, isa_isList_str, isa_isList_tup, isa_isList_lst, isa_isList_scr, isa_isList_dct, isa_isDict_non, isa_isDict_bl, isa_isDict_int, isa_isDict_str, isa_isDict_tup, isa_isDict_lst, isa_isDict_scr, isa_isDict_dct, eq_i, ne_i, eq_s, ne_s, fzn_1, fzn_2, fzn_3, fzn_4, fzn_5, fzn_6, fzn_7, fzn_8, fzn_9, fzn_s, fznL_n, fznL_c, fznK_n, fznK_c, fznF_n, fznF_c, sz0, sz1, sz2, sz3, sz4, sz5, sz6, sz7, sz8, pk1, pk2, pk3, pk4, fzL_n, fzL_c, fz_int, fz_bl, fz_str, fz_non, putD_n, putD_c, at0, at1, at2, at3, ix0, ix1, ix2, Bool.not_true, Bool.not_false, Bool.true_and, Bool.and_true, Bool.false_and, Bool.and_false, Bool.or_true, Bool.true_or, Bool.false_or, Bool.or_false, if_true, if_false, Bool.false_eq_true, decide_true, decide_false, and_self, and_true, true_and, not_true_eq_false, not_false_eq_true, ne_eq, false_and, and_false, eq_self, v_parN, po2, po3, po4, se_n, se_c, v_gUL, v_dnew, fi2_i, gdiv_i, gadd_i, x_bL, x_back, fin_x, v_clE, v_clB, v_clS, nx_ok, v_raise, tryK_ok, tryK_ex, v_try, hdM_s, hdM_n, v_hd, v_cb, v_cbx, v_xf, asX_e, v_d1, lk_hit, v_mkXL, v_mkN, fzn_exn, fz_exn, fzF_n, fzF_c, v_m1s, strM_s])
section
/-! ### codes as texts: one row, one page -/
open TL (tl tl_append ext_tl len_tl mk_tl tl_ofString tl_join join_eq split_spl kind_ok split_join)
abbrev spS : Str := PySem.Str.ofString " "
abbrev nlS : Str := PySem.Str.ofString "\n"
abbrev dashS : Str := PySem.Str.ofString "-"
theorem tl_sp : tl spS = [32] := by rw [tl_ofString]; rfl
theorem tl_nl : tl nlS = [10] := by rw [tl_ofString]; rfl
theorem tl_dash : tl dashS = [45] := by rw [tl_ofString]; rfl
theorem k_sp : spS.cps.all (· < 256) = true := by decide +kernel
theorem k_nl : nlS.cps.all (· < 256) = true := by decide +kernel
def wordsL (x : Str) : List Str := Txt.split x spS
def rowsT (x : Str) : List Str := Txt.split x nlS
theorem words_ne {x : Str} : wordsL x ≠ [] := split_ne (by rw [tl_sp]; simp) k_sp
theorem rows_ne {x : Str} : rowsT x ≠ [] := split_ne (by rw [tl_nl]; simp) k_nl
theorem sp_len : spS.length = 1 := by rw [len_tl, tl_sp]; rfl
theorem nl_len : nlS.length = 1 := by rw [len_tl, tl_nl]; rfl
theorem words_sum {x : Str} : ((wordsL x).map (·.length)).sum + (wordsL x).length = x.length + 1 := by
  have := split_sum (x := x) (y := spS) (by rw [tl_sp]; simp) k_sp
  rw [sp_len, Nat.mul_one] at this
  exact this
theorem rows_sum {x : Str} : ((rowsT x).map (·.length)).sum + (rowsT x).length = x.length + 1 := by
  have := split_sum (x := x) (y := nlS) (by rw [tl_nl]; simp) k_nl
  rw [nl_len, Nat.mul_one] at this
  exact this
theorem mem_sum {y : Str} : ∀ {l : List Str}, y ∈ l → y.length ≤ (l.map (·.length)).sum
  | z :: r, h => by
    rw [List.map_cons, List.sum_cons]
    rcases List.mem_cons.mp h with rfl | h
    · omega
    · have := mem_sum h; omega
theorem word_le {x w : Str} (h : w ∈ wordsL x) : w.length ≤ x.length := by
  have h1 := mem_sum h
  have h2 := words_sum (x := x)
  have h3 : 1 ≤ (wordsL x).length := List.length_pos_iff.mpr words_ne
  omega
theorem row_le {x w : Str} (h : w ∈ rowsT x) : w.length ≤ x.length := by
  have h1 := mem_sum h
  have h2 := rows_sum (x := x)
  have h3 : 1 ≤ (rowsT x).length := List.length_pos_iff.mpr rows_ne
  omega
theorem fsp {x : Str} (h : x.length ≤ 100000) : fSplit x (.str spS) = some (.lst true ((wordsL x).map .str)) := if_pos ⟨by rw [sp_len]; decide, Nat.le_trans (by omega : x.length + 2 ≤ 100002) (by decide)⟩
theorem fnl {x : Str} (h : x.length ≤ 100000) : fSplit x (.str nlS) = some (.lst true ((rowsT x).map .str)) := if_pos ⟨by rw [nl_len]; decide, Nat.le_trans (by omega : x.length + 2 ≤ 100002) (by decide)⟩
/-- a word that is a byte below c -/
def okW (c : Nat) (w : Str) : Bool := match numW 6 w with | some n => decide (n < c) | none => false
def rowR (c : Nat) (x : Str) : Option (List Nat) := if x = dashS then some [] else if (wordsL x).all (okW c) = true then some ((wordsL x).map fun w => (numW 6 w).getD 0) else none
theorem strs_fz {l : List Str} : fznL (l.map D.str) = true := fznL_map fun _ _ => rfl
theorem oI_dat {o : Option Nat} : isDat (oI o) = true := by cases o <;> rfl
theorem oI_fz {o : Option Nat} : fzn (oI o) = true := by cases o <;> rfl
theorem okI_w {c : Nat} {w : Str} : okI ((c : Int) - 1) (oI (numW 6 w)) = okW c w := by
  unfold okW
  cases numW 6 w with
  | none => rfl
  | some n =>
    show (decide ((0 : Int) ≤ (n : Nat)) && decide (((n : Nat) : Int) ≤ (c : Int) - 1)) = decide (n < c)
    rw [← Bool.decide_and]
    exact decide_eq_decide.mpr (by omega)
theorem oI_get {c : Nat} {l : List Str} (h : l.all (okW c) = true) : l.map (fun w => oI (numW 6 w)) = (l.map fun w => (numW 6 w).getD 0).map fun x : Nat => D.int x := by
  rw [List.map_map]
  refine List.map_congr_left fun w hw => ?_
  have := List.all_eq_true.mp h w hw
  unfold okW at this
  show oI (numW 6 w) = D.int ((numW 6 w).getD 0 : Nat)
  cases q : numW 6 w with
  | none => rw [q] at this; cases this
  | some n => rfl
section
variable {c : Nat} {rs : List Row} {x p : Str}
theorem code_in_spec (hl : x.length ≤ 5000) : m_code_in [machD false c rs, .str x] = .ok (match rowR c x with | some ns => cd ns | none => .non) [] := by
  have hzm := fzn_mach (c := c) (rs := rs)
  have he : fEq2 (.str x) (.str dashS) = some (.bl (decide (x = dashS))) := eq_strs
  unfold rowR
  by_cases hd : x = dashS
  · rw [if_pos hd]
    rw [decide_eq_true hd] at he
    unfold m_code_in b_code_in
    rw [v_fn]
    show _ = Rf.ok (cd []) []
    unfold cd
    clear hd hl
    walk_at "ew"
  rw [if_neg hd]
  rw [decide_eq_false hd] at he
  have hs := fsp (x := x) (by omega)
  have hws := words_sum (x := x)
  have hcp : cp_code_in_1 [some (machD false c rs), some (.str x), none, none] = .ok (.lst true ((wordsL x).map fun w => oI (numW 6 w))) [some (machD false c rs), some (.str x), none, none] := by
    unfold cp_code_in_1
    refine eLc_map (wordsL x) (fun w => .str w) _ (e := [some (machD false c rs), some (.str x), none, none]) ?_ rfl (Nat.le_trans (by omega : _ ≤ 10000) (by decide)) fun w hw => ⟨[some (machD false c rs), some (.str x), none, some (.str w)], rfl, ?_, rfl⟩
    · have fz := fz_sameL _ (strs_fz (l := wordsL x))
      clear he hd hws hl hzm
      show iSeq (eM1 fSplit (eV 1) (eC (.str spS))) _ = .ok ((wordsL x).map D.str) _
      push_cast [v_m1s, hs, fz]
    · have hn : m_number_in [.str w, .int 6] = .ok (oI (numW 6 w)) [] := number_spec (w := w) (m := 6) (by have := word_le hw; omega) (by decide)
      unfold ce_code_in_1
      clear hs he hd hws hl hw hzm
      walk_at "ew"
  have hz : fznL ((wordsL x).map fun w => oI (numW 6 w)) = true := fznL_map fun _ _ => oI_fz
  have ht : fTuple [.lst true ((wordsL x).map fun w => oI (numW 6 w))] = some (.tup ((wordsL x).map fun w => oI (numW 6 w))) := by
    rw [tuple_l]
    rw [hz]
    rfl
  have hcode := is_code_tup (c := c) (rs := rs) (ds := (wordsL x).map fun w => oI (numW 6 w)) (fun d hd => by obtain ⟨w, _, rfl⟩ := List.mem_map.mp hd; exact oI_dat) hz (by rw [List.length_map]; omega)
  rw [show ((wordsL x).map fun w => oI (numW 6 w)).all (okI ((c : Int) - 1)) = (wordsL x).all (okW c) by
    rw [List.all_map]
    congr 1
    funext w
    exact okI_w] at hcode
  have hfz : fzn (.tup ((wordsL x).map fun w => oI (numW 6 w))) = true := hz
  by_cases hall : (wordsL x).all (okW c) = true
  · rw [if_pos hall]
    rw [hall] at hcode
    show _ = Rf.ok (cd ((wordsL x).map fun w => (numW 6 w).getD 0)) []
    have hg : D.tup ((wordsL x).map fun w => oI (numW 6 w)) = cd ((wordsL x).map fun w => (numW 6 w).getD 0) := by
      unfold cd
      rw [oI_get hall]
    rw [hg] at hcode ht hfz
    unfold m_code_in b_code_in
    rw [v_fn]
    clear hg hall hz hd hws hl hs
    generalize cd ((wordsL x).map fun w => (numW 6 w).getD 0) = C at *
    generalize ((wordsL x).map fun w => oI (numW 6 w)) = W at *
    walk_at "ew"
  · rw [if_neg hall]
    rw [show (wordsL x).all (okW c) = false by simpa using hall] at hcode
    show _ = Rf.ok .non []
    unfold m_code_in b_code_in
    rw [v_fn]
    clear hall hz hd hws hl hs
    generalize ((wordsL x).map fun w => oI (numW 6 w)) = W at *
    walk_at "ew"
/-- what a page reads as: a code, or the line that is wrong -/
def readT (c : Nat) (p : Str) : Option (List Nat) × Int := match rowR c ((rowsT p).headD eS) with
  | none => (none, 0)
  | some ns => if 1 < (rowsT p).length then (none, 1) else (some ns, 0)
theorem rows_head {p : Str} : ∃ r l, rowsT p = r :: l := by
  cases q : rowsT p with
  | nil => exact absurd q rows_ne
  | cons r l => exact ⟨r, l, rfl⟩
theorem ix_hd {o : Bool} {r : Str} {l : List Str} : fIx (.lst o ((r :: l).map D.str)) (.int 0) = some (.str r) := by
  rw [ix_l, List.map_cons, at0]
theorem len_strs {o : Bool} {l : List Str} : fLen [.lst o (l.map D.str)] = some (.int (l.length : Nat)) := by
  rw [len_l, List.length_map]
theorem lines_ok (hl : p.length ≤ 5000) : m_lines_of [.str p] = .ok (.lst true ((rowsT p).map .str)) [] := by
  have hs := fnl (x := p) (by omega)
  unfold m_lines_of b_lines_of
  rw [v_fn]
  clear hl
  push_cast [v_m1s, hs]
def xPE (k : Int) : Exn := ⟨"ParseError", [("line", .int k)]⟩
theorem parse_spec (hl : p.length ≤ 5000) : m_parse_code [machD false c rs, .str p] = (match readT c p with | (some ns, _) => .ok (cd ns) [] | (none, k) => .ex (xPE k) []) := by
  obtain ⟨r, l, hr⟩ := rows_head (p := p)
  have h1 := lines_ok hl
  have hrl : r.length ≤ 5000 := by
    have := row_le (x := p) (w := r) (by rw [hr]; exact List.mem_cons_self ..)
    omega
  have h2 := code_in_spec (c := c) (rs := rs) hrl
  have h3 := @ix_hd true r l
  have h4 := @len_strs true (r :: l)
  have hzm := fzn_mach (c := c) (rs := rs)
  have hzc := @fzn_cd
  unfold readT xPE
  rw [hr] at h1 ⊢
  rw [List.headD_cons]
  generalize (r :: l).map D.str = RS at *
  generalize hn : (r :: l).length = n at *
  unfold m_parse_code b_parse_code
  rw [v_fn]
  cases q : rowR c r with
  | none =>
    rw [q] at h2
    simp only
    have h2 : m_code_in [machD false c rs, .str r] = .ok .non [] := h2
    clear q hl hrl hr hn
    walk_at "ew"
  | some ns =>
    rw [q] at h2
    simp only
    have h2 : m_code_in [machD false c rs, .str r] = .ok (cd ns) [] := h2
    have hi : fIs (cd ns) .non = some (.bl false) := rfl
    by_cases hn1 : 1 < n
    · rw [if_pos hn1]
      have : ((n : Nat) : Int) > 1 := by omega
      simp only
      clear q hl hrl hr hn hn1
      walk_at "ew"
    · rw [if_neg hn1]
      have : ¬ ((n : Nat) : Int) > 1 := by omega
      simp only
      clear q hl hrl hr hn hn1
      walk_at "ew"
def dueD (c : Nat) (p : Str) : D := match readT c p with
  | (some ns, _) => .tup [.str (PySem.Str.ofString "told"), cd ns]
  | (none, k) => .tup [.str (PySem.Str.ofString "line"), .int k]
theorem due_spec (hl : p.length ≤ 5000) : m_l_due [tabD c rs, .str p] = .ok (dueD c p) [] := by
  obtain ⟨r, l, hr⟩ := rows_head (p := p)
  have hs := fnl (x := p) (by omega)
  have hrl : r.length ≤ 5000 := by
    have := row_le (x := p) (w := r) (by rw [hr]; exact List.mem_cons_self ..)
    omega
  rw [hr] at hs
  have h3 := @ix_hd true r l
  have h4 := @len_strs true (r :: l)
  have hws := words_sum (x := r)
  have he : fEq2 (.str r) (.str dashS) = some (.bl (decide (r = dashS))) := eq_strs
  have hsp := fsp (x := r) (by omega)
  have hT : fIx (tabD c rs) (.int 0) = some (.int c) := rfl
  unfold dueD readT
  rw [hr, List.headD_cons]
  generalize (r :: l).map D.str = RS at *
  generalize hn : (r :: l).length = n at *
  obtain ⟨ns, hns⟩ : ∃ ns : List Int, ns = if r = dashS then [] else (wordsL r).map (lnW 6) := ⟨_, rfl⟩
  have hnl : ns.length ≤ 6000 := by
    rw [hns]
    split
    · exact Nat.zero_le _
    · rw [List.length_map]; omega
  have s2 : ∀ x4 x5 : Option D, (sAsg (gN 3) (eIf (bB (e2 fEq2 (e2 fIx (eV 2) (eC (.int 0))) (eC (.str dashS)))) (eLst lNil) cp_l_due_2)) [some (tabD c rs), some (.str p), some (.lst true RS), none, none, none] = .ok .nx [some (tabD c rs), some (.str p), some (.lst true RS), some (.lst true (ns.map .int)), none, none] := by
    intro x4 x5
    by_cases hd : r = dashS
    · rw [decide_eq_true hd] at he
      rw [hns, if_pos hd]
      clear hs h4 hws hsp hT hns hn hnl hl hrl hr hd
      walk_at "ew"
    · rw [decide_eq_false hd] at he
      rw [hns, if_neg hd]
      have hcp : cp_l_due_2 [some (tabD c rs), some (.str p), some (.lst true RS), none, none, none] = .ok (.lst true ((wordsL r).map fun w => .int (lnW 6 w))) [some (tabD c rs), some (.str p), some (.lst true RS), none, none, none] := by
        unfold cp_l_due_2
        refine eLc_map (wordsL r) (fun w => .str w) _ (e := [some (tabD c rs), some (.str p), some (.lst true RS), none, none, none]) ?_ rfl (Nat.le_trans (by omega : _ ≤ 10000) (by decide)) fun w hw => ⟨[some (tabD c rs), some (.str p), some (.lst true RS), none, some (.str w), none], rfl, ?_, rfl⟩
        · have fz := fz_sameL _ (strs_fz (l := wordsL r))
          clear he hd hws hl hs hns hnl hrl h4 hn hr hT
          show iSeq (eM1 fSplit (e2 fIx (eV 2) (eC (.int 0))) (eC (.str spS))) _ = .ok ((wordsL r).map D.str) _
          push_cast [v_m1s, hsp, h3, fz]
        · have hn : m_l_number [.str w, .int 6] = .ok (.int (lnW 6 w)) [] := lnumber_spec (w := w) (m := 6) (by have := word_le hw; omega) (by decide)
          unfold ce_l_due_2
          clear hsp he hd hws hl hw hs hns hnl hrl h4 h3 hr hT
          walk_at "ew"
      rw [List.map_map]
      show _ = R.ok Fl.nx [some (tabD c rs), some (.str p), some (.lst true RS), some (.lst true ((wordsL r).map fun w => .int (lnW 6 w))), none, none]
      clear hs h4 hws hsp hT hns hn hnl hl hrl hr hd
      generalize ((wordsL r).map fun w => D.int (lnW 6 w)) = W at *
      walk_at "ew"
  have hcp1 : cp_l_due_1 [some (tabD c rs), some (.str p), some (.lst true RS), some (.lst true (ns.map .int)), none, none] = .ok (.lst true (ns.map fun n : Int => .bl (decide (0 ≤ n) && decide (n < (c : Int))))) [some (tabD c rs), some (.str p), some (.lst true RS), some (.lst false (ns.map .int)), none, none] := by
    have hz : fznL (ns.map D.int) = true := fznL_map fun _ _ => rfl
    have hz2 := fz_sameL _ hz
    unfold cp_l_due_1
    refine eLc_map ns (fun n => .int n) _ (e := [some (tabD c rs), some (.str p), some (.lst true RS), some (.lst false (ns.map .int)), none, none]) ?_ rfl (Nat.le_trans hnl (by decide)) fun n hn => ⟨[some (tabD c rs), some (.str p), some (.lst true RS), some (.lst false (ns.map .int)), none, some (.int n)], rfl, ?_, rfl⟩
    · clear s2 hs h4 hws hsp hT hns hn hnl hl hrl hr he h3
      generalize ns.map D.int = NS at *
      walk_at "ew"
    · unfold ce_l_due_1
      clear s2 hs h4 hws hsp hns hnl hl hrl hr he h3 hz hz2
      by_cases h0 : 0 ≤ n
      · walk_at "ew"
      · walk_at "ew"
  have hall := all_bb (o := true) (l := ns) (f := fun n : Int => decide (0 ≤ n) && decide (n < (c : Int)))
  have hz : fznL (ns.map D.int) = true := fznL_map fun _ _ => rfl
  have key : (match rowR c r with | some ms => some (ms.map fun x : Nat => (x : Int)) | none => none) = if ns.all (fun n => decide (0 ≤ n) && decide (n < (c : Int))) = true then some ns else none := by
    unfold rowR
    rw [hns]
    by_cases hd : r = dashS
    · rw [if_pos hd, if_pos hd]
      rfl
    · rw [if_neg hd, if_neg hd]
      have e1 : ((wordsL r).map (lnW 6)).all (fun n => decide (0 ≤ n) && decide (n < (c : Int))) = (wordsL r).all (okW c) := by
        rw [List.all_map]
        congr 1
        funext w
        show (decide (0 ≤ lnW 6 w) && decide (lnW 6 w < (c : Int))) = okW c w
        unfold lnW okW
        cases numW 6 w with
        | none => rfl
        | some n =>
          simp only
          rw [← Bool.decide_and]
          exact decide_eq_decide.mpr (by omega)
      rw [e1]
      by_cases ha : (wordsL r).all (okW c) = true
      · rw [if_pos ha, if_pos ha]
        simp only
        rw [List.map_map]
        congr 1
        refine List.map_congr_left fun w hw => ?_
        have := List.all_eq_true.mp ha w hw
        unfold okW at this
        show (((numW 6 w).getD 0 : Nat) : Int) = lnW 6 w
        unfold lnW
        cases q : numW 6 w with
        | none => rw [q] at this; cases this
        | some n => rfl
      · rw [if_neg ha, if_neg ha]
  unfold m_l_due b_l_due
  rw [v_fn]
  walk_at "env"
  refine fin_seq (e := [some (tabD c rs), some (.str p), some (.lst true RS), none, none, none]) (by clear s2 hcp1 hall key hz h3 h4 hws hsp hT hns hn hnl hl hrl hr he; push_cast [v_m1s, hs]) ?_
  refine fin_seq (s2 none none) ?_
  by_cases ha : ns.all (fun n => decide (0 ≤ n) && decide (n < (c : Int))) = true
  · rw [if_pos ha] at key
    rw [ha] at hall
    cases q : rowR c r with
    | none => rw [q] at key; cases key
    | some ms =>
      rw [q] at key
      have key : ms.map (fun x : Nat => (x : Int)) = ns := Option.some.inj key
      have hcd : D.tup (ns.map D.int) = cd ms := by
        rw [← key]
        unfold cd
        rw [List.map_map]
        rfl
      have ht : fTuple [.lst false (ns.map D.int)] = some (cd ms) := by
        rw [tuple_l, hz, ← hcd]
        rfl
      have hzc := @fzn_cd
      simp only
      by_cases hn1 : 1 < n
      · rw [if_pos hn1]
        have : ((n : Nat) : Int) > 1 := by omega
        simp only
        clear s2 key hz hs hws hsp hns hn hnl hl hrl hr he ha q hcd hn1 h3
        generalize (ns.map fun n : Int => D.bl (decide (0 ≤ n) && decide (n < (c : Int)))) = BS at *
        generalize ns.map D.int = NS at *
        walk_at "ew"
      · rw [if_neg hn1]
        have : ¬ ((n : Nat) : Int) > 1 := by omega
        simp only
        clear s2 key hz hs hws hsp hns hn hnl hl hrl hr he ha q hcd hn1 h3
        generalize (ns.map fun n : Int => D.bl (decide (0 ≤ n) && decide (n < (c : Int)))) = BS at *
        generalize ns.map D.int = NS at *
        walk_at "ew"
  · rw [if_neg ha] at key
    rw [show ns.all (fun n => decide (0 ≤ n) && decide (n < (c : Int))) = false by simpa using ha] at hall
    cases q : rowR c r with
    | some ms => rw [q] at key; cases key
    | none =>
      simp only
      clear s2 key hz hs hws hsp hns hn hnl hl hrl hr he ha q h3 h4
      generalize (ns.map fun n : Int => D.bl (decide (0 ≤ n) && decide (n < (c : Int)))) = BS at *
      generalize ns.map D.int = NS at *
      walk_at "ew"
end
end
section
open TL (tl tl_append ext_tl len_tl mk_tl tl_ofString tl_join join_eq split_spl kind_ok split_join)
/-! ### a page, bent -/
theorem fjoin_le {o : Bool} {a : Str} {ys : List Str} (ha : a.length = 1) (hs : (ys.map (·.length)).sum + ys.length ≤ 100000) : fJoin a (.lst o (ys.map .str)) = some (.str (Txt.join a ys)) ∧ (Txt.join a ys).length ≤ (ys.map (·.length)).sum + ys.length := by
  constructor
  · unfold fJoin
    have e : (seqV (.lst o (ys.map D.str))).bind strsD = some ys := strsD_map ys
    rw [e]
    simp only
    rw [if_pos (by rw [ha, Nat.mul_one]; omega)]
  · cases ys with
    | nil => rw [join_eq]; exact Nat.zero_le _
    | cons y r =>
      have := join_len (y := a) (l := y :: r) (by simp)
      rw [← join_eq, ha] at this
      omega
theorem cut_le {x : Str} {a b : Option Int} : (cutS x a b).length ≤ x.length := cutS_length x a b
theorem sl_str63 {x : Str} {a b : Option Int} (h : x.length ≤ 100000) : fSl (.str x) a b = some (.str (cutS x a b)) := if_pos (Nat.le_trans h (by decide))
theorem add_str63 {x y : Str} (h : x.length + y.length ≤ 100000) : fAdd (.str x) (.str y) = some (.str (x ++ y)) := if_pos (Nat.le_trans h (by decide))
theorem cut2 {x : Str} {a : Int} (h0 : 0 ≤ a) : (cutS x (some a) (some (a + 2))).length ≤ 2 := by
  show (List.toArray _).size ≤ 2
  rw [List.size_toArray, List.length_take, List.length_drop]
  unfold HT.sIx
  simp only
  split <;> split <;> omega
theorem rev_le {x : Str} (h : x.length ≤ 2) : (revS x).length ≤ 2 := by
  unfold revS
  show (List.toArray _).size ≤ 2
  rw [List.size_toArray]
  refine Nat.le_trans (List.length_filterMap_le _ _) ?_
  generalize x.length = n at h
  match n, h with
  | 0, _ => decide
  | 1, _ => decide
  | 2, _ => decide
theorem rev_ok {x : Str} (h : x.length ≤ 2) : fRevS (.str x) = some (.str (revS x)) := if_pos (Nat.le_trans (rev_le h) (by decide))
theorem cut_map63 {α β : Type} {f : α → β} {l : List α} {a b : Option Int} : cutA (l.map f) a b = (cutA l a b).map f := by
  unfold cutA
  rw [List.length_map, List.map_take, List.map_drop]
theorem sum_take : ∀ {l : List Nat} {n : Nat}, (l.take n).sum ≤ l.sum
  | [], n => by rw [List.take_nil]; exact Nat.le_refl _
  | a :: l, 0 => Nat.zero_le _
  | a :: l, n + 1 => by
    have := sum_take (l := l) (n := n)
    rw [List.take_succ_cons, List.sum_cons, List.sum_cons]
    omega
theorem sum_drop : ∀ {l : List Nat} {n : Nat}, (l.drop n).sum ≤ l.sum
  | [], n => by rw [List.drop_nil]; exact Nat.le_refl _
  | a :: l, 0 => Nat.le_refl _
  | a :: l, n + 1 => by
    have := sum_drop (l := l) (n := n)
    rw [List.drop_succ_cons, List.sum_cons]
    omega
theorem sum_cut {l : List Str} {a b : Option Int} : ((cutA l a b).map (·.length)).sum ≤ (l.map (·.length)).sum := by
  unfold cutA
  rw [List.map_take, List.map_drop]
  exact Nat.le_trans sum_take sum_drop
theorem len_cut {α : Type} {l : List α} {a b : Option Int} : (cutA l a b).length ≤ l.length := by
  unfold cutA
  rw [List.length_take, List.length_drop]
  omega
theorem sl_strs {o : Bool} {l : List Str} {a b : Option Int} : fSl (.lst o (l.map D.str)) a b = some (.lst true ((cutA l a b).map D.str)) := by
  show (if fznL (l.map D.str) then some (D.lst true (cutA (l.map D.str) a b)) else none) = _
  rw [if_pos strs_fz, cut_map63]
theorem add_strs {o o' : Bool} {l m : List Str} (h : l.length + m.length ≤ 100000) : fAdd (.lst o (l.map D.str)) (.lst o' (m.map D.str)) = some (.lst true ((l ++ m).map D.str)) := by
  rw [List.map_append]
  exact if_pos ⟨by rw [List.length_map, List.length_map]; exact Nat.le_trans h (by decide), strs_fz, strs_fz⟩
theorem of_str {N : Nat} {b : D} {s : Str} (hb : Bx N b) (hN : N ≤ 2 ^ 60) (h0 : 1 ≤ s.length) (h1 : s.length ≤ 1000) : ∃ r b', m_l_of [b, .str s] = .ok (.str r) [b'] ∧ r.length = 1 ∧ Bx (N + 1) b' := by
  obtain ⟨i, b', ht, h2, h3, h4⟩ := take_spec (m := s.length) hb hN (by omega) (by omega)
  have hlen : s.length = (s.cps.toList).length := len_tl s
  obtain ⟨x, hx, ha⟩ := at_mem (xs := s.cps.toList) (i := i) h2 (by omega)
  have hi : fIx (.str s) (.int i) = some (.str ⟨#[x]⟩) := by
    show (if s.length ≤ sizeLine then (atI s.cps.toList i).map fun c => D.str ⟨#[c]⟩ else none) = _
    rw [if_pos (Nat.le_trans h1 (by decide)), ha]
    rfl
  have hl := len_str (x := s) (by omega)
  refine ⟨⟨#[x]⟩, b', ?_, rfl, h4⟩
  clear hlen h0 h1 h2 h3 ha hx hN
  unfold m_l_of b_l_of
  rw [v_fn]
  walk_at "ew"
theorem at_map63 {xs : List Str} {i : Int} {x : Str} (h : atI xs i = some x) : atI (xs.map D.str) i = some (D.str x) := by
  unfold atI at h ⊢
  rw [List.length_map]
  cases q : ixN xs.length i with
  | none => rw [q] at h; cases h
  | some j =>
    rw [q] at h
    have h : xs[j]? = some x := h
    show (xs.map D.str)[j]? = _
    rw [List.getElem?_map, h]
    rfl
theorem mul_sign {x : Str} {k : Int} (h : x.length = 1) (h0 : 0 ≤ k) (h1 : k < 2) : ∃ y : Str, fMul (.str x) (.int k) = some (.str y) ∧ y.length ≤ 1 := by
  refine ⟨Txt.mul x k, if_pos ⟨by omega, by omega, by omega⟩, ?_⟩
  unfold Txt.mul
  rcases (by omega : k = 0 ∨ k = 1) with rfl | rfl
  · rw [if_pos (by decide)]; decide
  · rw [if_neg (by decide), if_pos (by simp)]; omega
abbrev signs1 : Str := PySem.Str.ofString " 0123456789-?\n"
abbrev signs2 : Str := PySem.Str.ofString " 0123456789-?abcdefghijklmnopqrstuvwxyzABCXYZ!#$&()*+,./:;<=>\x40[]^_{|}~'\"\n"
theorem pick2 {x y : Str} {i : Int} (h0 : 0 ≤ i) (h1 : i < 2) : fIx (.lst true [.str x, .str y]) (.int i) = some (.str (if i = 0 then x else y)) := by
  rcases (by omega : i = 0 ∨ i = 1) with rfl | rfl
  · rfl
  · rfl
theorem pick2' {x y : Str} {i : Int} (h0 : 0 ≤ i) (h1 : i < 2) : fIx (.lst false [.str x, .str y]) (.int i) = some (.str (if i = 0 then x else y)) := by
  rcases (by omega : i = 0 ∨ i = 1) with rfl | rfl
  · rfl
  · rfl
theorem gap_split {g p : Str} (hg : g = spS ∨ g = nlS) (hl : p.length ≤ 2000) : ∃ l : List Str, fSplit p (.str g) = some (.lst true (l.map .str)) ∧ l ≠ [] ∧ (l.map (·.length)).sum + l.length = p.length + 1 ∧ g.length = 1 := by
  rcases hg with rfl | rfl
  · exact ⟨_, fsp (by omega), words_ne, words_sum, sp_len⟩
  · exact ⟨_, fnl (by omega), rows_ne, rows_sum, nl_len⟩
theorem bent_spec {N : Nat} {b : D} {p : Str} (hb : Bx N b) (hN : N ≤ 2 ^ 50) (hl : p.length ≤ 1000) : ∃ q b', m_l_bent [b, .str p] = .ok (.str q) [b'] ∧ q.length ≤ 4 * p.length + 40 ∧ Bx (N + 20) b' := by
  obtain ⟨way, b1, t1, w1, w2, hb1⟩ := take_spec (m := 8) hb (by omega) (by omega) (by omega)
  obtain ⟨at_, b2, t2, a1, a2, hb2⟩ := take_spec (m := (p.length : Int) + 1) hb1 (by omega) (by omega) (by omega)
  have hlp := len_str (x := p) (by omega)
  obtain ⟨i, b3, t3, i1, i2, hb3⟩ := take_spec (m := 2) hb2 (by omega) (by omega) (by omega)
  have hsg : ∃ sg : Str, sg = (if i = 0 then signs1 else signs2) ∧ 1 ≤ sg.length ∧ sg.length ≤ 1000 := by
    refine ⟨_, rfl, ?_⟩
    split
    · exact ⟨by rw [len_tl, tl_ofString]; decide, by rw [len_tl, tl_ofString]; decide⟩
    · exact ⟨by rw [len_tl, tl_ofString]; decide, by rw [len_tl, tl_ofString]; decide⟩
  obtain ⟨sg, hsg, s1, s2⟩ := hsg
  have p1 := pick2' (x := signs1) (y := signs2) i1 i2
  rw [← hsg] at p1
  obtain ⟨sign, b4, t4, hsl, hb4⟩ := of_str (s := sg) hb3 (by omega) s1 s2
  obtain ⟨j, b5, t5, j1, j2, hb5⟩ := take_spec (m := 2) hb4 (by omega) (by omega) (by omega)
  obtain ⟨gap, hgap⟩ : ∃ g : Str, g = (if j = 0 then spS else nlS) := ⟨_, rfl⟩
  have p2 := pick2 (x := spS) (y := nlS) j1 j2
  rw [← hgap] at p2
  obtain ⟨parts, hsp, hne, hsum, hg1⟩ := gap_split (g := gap) (p := p) (by rw [hgap]; split <;> simp) (by omega)
  have hpl : 0 < parts.length := List.length_pos_iff.mpr hne
  have hlen := @len_strs true parts
  obtain ⟨spot, b6, t6, k1, k2, hb6⟩ := take_spec (m := (parts.length : Nat)) hb5 (by omega) (by omega) (by omega)
  obtain ⟨oth, b7, t7, l1, l2, hb7⟩ := take_spec (m := (parts.length : Nat)) hb6 (by omega) (by omega) (by omega)
  obtain ⟨one, ho1, ho2⟩ := at_mem (xs := parts) (i := oth) l1 l2
  have hone : fIx (.lst true (parts.map D.str)) (.int oth) = some (.str one) := by
    rw [ix_l]
    exact at_map63 ho2
  have hone1 := mem_sum ho1
  obtain ⟨SG, hSG⟩ : ∃ l, l = [D.str signs1, D.str signs2] := ⟨_, rfl⟩
  have fzS : fzL SG = SG := by rw [hSG]; rfl
  have fzS2 : fznL SG = true := by rw [hSG]; rfl
  rw [← hSG] at p1
  unfold m_l_bent b_l_bent
  suffices h : ∃ q b', fin [true, false] (sSeq (sIf (bB (e2 fLt (eV 2) (eC (.int 2)))) (sRet (e2 fAdd (e2 fAdd (eSl (eV 1) oN (oS (eV 3))) (e2 fMul (eV 5) (eV 2))) (eSl (eV 1) (oS (e2 fSub (e2 fAdd (eV 3) (eC (.int 1))) (eV 2))) oN))) sPass)
  (sSeq (sIf (bB (e2 fEq2 (eV 2) (eC (.int 2)))) (sRet (e2 fAdd (e2 fAdd (eSl (eV 1) oN (oS (eV 3))) (e1 fRevS (eSl (eV 1) (oS (eV 3)) (oS (e2 fAdd (eV 3) (eC (.int 2))))))) (eSl (eV 1) (oS (e2 fAdd (eV 3) (eC (.int 2)))) oN))) sPass)
  (sSeq (sIf (bB (e2 fEq2 (eV 2) (eC (.int 3)))) (sRet (eM1 fJoin (eV 6) (e2 fAdd (eSl (eV 7) oN (oS (eV 8))) (eSl (eV 7) (oS (e2 fAdd (eV 8) (eC (.int 1)))) oN)))) sPass)
  (sSeq (sIf (bB (e2 fEq2 (eV 2) (eC (.int 4)))) (sRet (eM1 fJoin (eV 6) (e2 fAdd (e2 fAdd (eSl (eV 7) oN (oS (eV 8))) (eLst (lCons (eK (e2 fIx (eV 7) (eV 9))) lNil))) (eSl (eV 7) (oS (eV 8)) oN)))) sPass)
  (sSeq (sIf (bB (e2 fEq2 (eV 2) (eC (.int 5)))) (sRet (eM1 fJoin (eV 6) (e2 fAdd (e2 fAdd (eSl (eV 7) oN (oS (eV 8))) (eLst (lCons (eK (e2 fIx (eV 7) (eV 9))) lNil))) (eSl (eV 7) (oS (e2 fAdd (eV 8) (eC (.int 1)))) oN)))) sPass)
  (sSeq (sIf (bB (e2 fEq2 (eV 2) (eC (.int 6)))) (sRet (e2 fAdd (e2 fAdd (eSl (eV 1) oN (oS (eV 3))) (eCall m_l_of [.io 0, .e (eFk (eLst (lCons (eC (.str (PySem.Str.ofString "00"))) (lCons (eC (.str (PySem.Str.ofString "0"))) (lCons (eC (.str (PySem.Str.ofString "1234567"))) (lCons (eC (.str (PySem.Str.ofString "256"))) (lCons (eC (.str (PySem.Str.ofString "\n"))) (lCons (eC (.str (PySem.Str.ofString "  "))) (lCons (eC (.str (PySem.Str.ofString " padding"))) lNil)))))))))])) (eSl (eV 1) (oS (eV 3)) oN))) sPass)
  (sRet (e2 fAdd (e2 fAdd (eSl (eV 1) oN (oS (eV 3))) (eV 5)) (eSl (eV 1) (oS (e2 fAdd (eV 3) (eC (.int 1)))) oN)))))))) [some b7, some (.str p), some (.int way), some (.int at_), some (.lst false SG), some (.str sign), some (.str gap), some (.lst true (parts.map D.str)), some (.int spot), some (.int oth)]) = .ok (.str q) [b'] ∧ q.length ≤ 4 * p.length + 40 ∧ Bx (N + 20) b' by
    obtain ⟨q, b', h1, h2, h3⟩ := h
    refine ⟨q, b', ?_, h2, h3⟩
    rw [v_fn]
    walk_at "env"
    refine fin_seq (e := [some b2, some (.str p), some (.int way), some (.int at_), none, none, none, none, none, none]) (by clear h1 hb hb1 hb2 hb3 hb4 hb5 hb6 hb7 hsp t3 t4 t5 t6 t7 p1 p2 hone hlen; walk_at "ew") ?_
    refine fin_seq (e := [some b2, some (.str p), some (.int way), some (.int at_), some (.lst true SG), none, none, none, none, none]) (by clear h1 hb hb1 hb2 hb3 hb4 hb5 hb6 hb7 hsp t1 t2 t3 t4 t5 t6 t7 p1 p2 hone hlen fzS fzS2; rw [hSG]; walk_at "ew") ?_
    refine fin_seq (e := [some b5, some (.str p), some (.int way), some (.int at_), some (.lst false SG), some (.str sign), some (.str gap), none, none, none]) (by clear h1 hb hb1 hb2 hb3 hb4 hb5 hb6 hb7 hsp t1 t2 t6 t7 hone hlen hSG hsg hgap; walk_at "ew") ?_
    refine fin_seq (e := [some b5, some (.str p), some (.int way), some (.int at_), some (.lst false SG), some (.str sign), some (.str gap), some (.lst true (parts.map D.str)), none, none]) (by clear h1 hb hb1 hb2 hb3 hb4 hb5 hb6 hb7 t1 t2 t3 t4 t5 t6 t7 p1 p2 hone hlen hSG; push_cast [v_m1s, hsp]) ?_
    refine fin_seq (e := [some b7, some (.str p), some (.int way), some (.int at_), some (.lst false SG), some (.str sign), some (.str gap), some (.lst true (parts.map D.str)), some (.int spot), some (.int oth)]) (by clear h1 hb hb1 hb2 hb3 hb4 hb5 hb6 hb7 t1 t2 t3 t4 t5 p1 p2 hone hsp hSG; walk_at "ew") ?_
    exact h1
  clear t1 t2 t3 t4 t5 t6 t7 p1 p2 hb hb1 hb2 hb3 hb4 hb5 hb6 hSG fzS fzS2 hsp hlp hlen
  have f1 := sl_str63 (x := p) (a := none) (b := some at_) (by omega)
  have q1 := cut_le (x := p) (a := none) (b := some at_)
  have g1 := @sl_strs true parts none (some spot)
  have n1 := @sum_cut parts none (some spot)
  have m1 := @len_cut _ parts none (some spot)
  have g2 := @sl_strs true parts (some (spot + 1)) none
  have n2 := @sum_cut parts (some (spot + 1)) none
  have m2 := @len_cut _ parts (some (spot + 1)) none
  have g3 := @sl_strs true parts (some spot) none
  have n3 := @sum_cut parts (some spot) none
  have m3 := @len_cut _ parts (some spot) none
  have o1 : (D.lst true [D.str one]) = .lst true ([one].map D.str) := rfl
  generalize cutS p none (some at_) = x1 at *
  by_cases c1 : way < 2
  · obtain ⟨y, hm, hm1⟩ := mul_sign hsl w1 c1
    have f2 := sl_str63 (x := p) (a := some (at_ + 1 - way)) (b := none) (by omega)
    have q2 := cut_le (x := p) (a := some (at_ + 1 - way)) (b := none)
    generalize cutS p (some (at_ + 1 - way)) none = x2 at *
    have f3 := add_str63 (x := x1) (y := y) (by omega)
    have f4 := add_str63 (x := x1 ++ y) (y := x2) (by rw [Str.length_append]; omega)
    refine ⟨x1 ++ y ++ x2, b7, ?_, by rw [Str.length_append, Str.length_append]; omega, hb7.mono (by omega)⟩
    clear g1 g2 g3 n1 n2 n3 m1 m2 m3 o1 hone hone1 ho1 ho2 hsum hne hpl hl hb7 hgap hsg q1 q2 hm1 hsl k1 k2 l1 l2 a1 a2 w1 w2 i1 i2 j1 j2 s1 s2 hg1
    walk_at "ew"
  by_cases c2 : way = 2
  · subst c2
    have f2 := sl_str63 (x := p) (a := some at_) (b := some (at_ + 2)) (by omega)
    have q2 := cut2 (x := p) (a := at_) a1
    have f3 := sl_str63 (x := p) (a := some (at_ + 2)) (b := none) (by omega)
    have q3 := cut_le (x := p) (a := some (at_ + 2)) (b := none)
    generalize cutS p (some at_) (some (at_ + 2)) = x2 at *
    generalize cutS p (some (at_ + 2)) none = x3 at *
    have f4 := rev_ok q2
    have q4 := rev_le q2
    generalize revS x2 = x4 at *
    have f5 := add_str63 (x := x1) (y := x4) (by omega)
    have f6 := add_str63 (x := x1 ++ x4) (y := x3) (by rw [Str.length_append]; omega)
    refine ⟨x1 ++ x4 ++ x3, b7, ?_, by rw [Str.length_append, Str.length_append]; omega, hb7.mono (by omega)⟩
    clear g1 g2 g3 n1 n2 n3 m1 m2 m3 o1 hone hone1 ho1 ho2 hsum hne hpl hl hb7 hgap hsg q1 q2 q3 q4 hsl k1 k2 l1 l2 a1 a2 w1 w2 i1 i2 j1 j2 s1 s2 hg1
    walk_at "ew"
  by_cases c3 : way = 3
  · subst c3
    have h1 := add_strs (o := true) (o' := true) (l := cutA parts none (some spot)) (m := cutA parts (some (spot + 1)) none) (by omega)
    obtain ⟨h2, h3⟩ := fjoin_le (o := true) (a := gap) (ys := cutA parts none (some spot) ++ cutA parts (some (spot + 1)) none) hg1 (by rw [List.map_append, List.sum_append, List.length_append]; omega)
    rw [List.map_append, List.sum_append, List.length_append] at h3
    refine ⟨_, b7, ?_, Nat.le_trans h3 (by omega), hb7.mono (by omega)⟩
    have d1 : ¬ ((3 : Int) < 2) := by decide
    have d2 : ¬ ((3 : Int) = 2) := by decide
    clear f1 h3 g3 n1 n2 n3 m1 m2 m3 o1 hone hone1 ho1 ho2 hsum hne hpl hl hb7 hgap hsg q1 hsl k1 k2 l1 l2 a1 a2 w1 w2 i1 i2 j1 j2 s1 s2 hg1 c1 c2
    generalize cutA parts none (some spot) = z1 at *
    generalize cutA parts (some (spot + 1)) none = z2 at *
    generalize (Txt.join gap (z1 ++ z2)) = J at *
    generalize (z1 ++ z2).map D.str = Z3 at *
    generalize z1.map D.str = Z1 at *
    generalize z2.map D.str = Z2 at *
    walk_at "ew"
  by_cases c4 : way = 4
  · subst c4
    have h0 := add_strs (o := true) (o' := true) (l := cutA parts none (some spot)) (m := [one]) (by rw [List.length_singleton]; omega)
    have h1 := add_strs (o := true) (o' := true) (l := cutA parts none (some spot) ++ [one]) (m := cutA parts (some spot) none) (by rw [List.length_append, List.length_singleton]; omega)
    obtain ⟨h2, h3⟩ := fjoin_le (o := true) (a := gap) (ys := cutA parts none (some spot) ++ [one] ++ cutA parts (some spot) none) hg1 (by rw [List.map_append, List.map_append, List.sum_append, List.sum_append, List.length_append, List.length_append, List.map_singleton, List.sum_singleton, List.length_singleton]; omega)
    rw [List.map_append, List.map_append, List.sum_append, List.sum_append, List.length_append, List.length_append, List.map_singleton, List.sum_singleton, List.length_singleton] at h3
    refine ⟨_, b7, ?_, Nat.le_trans h3 (by omega), hb7.mono (by omega)⟩
    rw [← o1] at h0
    have d1 : ¬ ((4 : Int) < 2) := by decide
    have d2 : ¬ ((4 : Int) = 2) := by decide
    have d3 : ¬ ((4 : Int) = 3) := by decide
    clear f1 h3 g2 n1 n2 n3 m1 m2 m3 o1 hone1 ho1 ho2 hsum hne hpl hl hb7 hgap hsg q1 hsl k1 k2 l1 l2 a1 a2 w1 w2 i1 i2 j1 j2 s1 s2 hg1 c1 c2 c3
    generalize cutA parts none (some spot) = z1 at *
    generalize cutA parts (some spot) none = z2 at *
    generalize (Txt.join gap (z1 ++ [one] ++ z2)) = J at *
    generalize (z1 ++ [one] ++ z2).map D.str = Z3 at *
    generalize (z1 ++ [one]).map D.str = Z4 at *
    generalize z1.map D.str = Z1 at *
    generalize z2.map D.str = Z2 at *
    generalize parts.map D.str = PS at *
    walk_at "ew"
  by_cases c5 : way = 5
  · subst c5
    have h0 := add_strs (o := true) (o' := true) (l := cutA parts none (some spot)) (m := [one]) (by rw [List.length_singleton]; omega)
    have h1 := add_strs (o := true) (o' := true) (l := cutA parts none (some spot) ++ [one]) (m := cutA parts (some (spot + 1)) none) (by rw [List.length_append, List.length_singleton]; omega)
    obtain ⟨h2, h3⟩ := fjoin_le (o := true) (a := gap) (ys := cutA parts none (some spot) ++ [one] ++ cutA parts (some (spot + 1)) none) hg1 (by rw [List.map_append, List.map_append, List.sum_append, List.sum_append, List.length_append, List.length_append, List.map_singleton, List.sum_singleton, List.length_singleton]; omega)
    rw [List.map_append, List.map_append, List.sum_append, List.sum_append, List.length_append, List.length_append, List.map_singleton, List.sum_singleton, List.length_singleton] at h3
    refine ⟨_, b7, ?_, Nat.le_trans h3 (by omega), hb7.mono (by omega)⟩
    rw [← o1] at h0
    have d1 : ¬ ((5 : Int) < 2) := by decide
    have d2 : ¬ ((5 : Int) = 2) := by decide
    have d3 : ¬ ((5 : Int) = 3) := by decide
    have d4 : ¬ ((5 : Int) = 4) := by decide
    clear f1 h3 g3 n1 n2 n3 m1 m2 m3 o1 hone1 ho1 ho2 hsum hne hpl hl hb7 hgap hsg q1 hsl k1 k2 l1 l2 a1 a2 w1 w2 i1 i2 j1 j2 s1 s2 hg1 c1 c2 c3 c4
    generalize cutA parts none (some spot) = z1 at *
    generalize cutA parts (some (spot + 1)) none = z2 at *
    generalize (Txt.join gap (z1 ++ [one] ++ z2)) = J at *
    generalize (z1 ++ [one] ++ z2).map D.str = Z3 at *
    generalize (z1 ++ [one]).map D.str = Z4 at *
    generalize z1.map D.str = Z1 at *
    generalize z2.map D.str = Z2 at *
    generalize parts.map D.str = PS at *
    walk_at "ew"
  clear g1 g2 g3 n1 n2 n3 m1 m2 m3 o1 hone hone1 ho1 ho2 hsum hne
  by_cases c6 : way = 6
  · subst c6
    have d1 : ¬ ((6 : Int) < 2) := by decide
    have d2 : ¬ ((6 : Int) = 2) := by decide
    have d3 : ¬ ((6 : Int) = 3) := by decide
    have d4 : ¬ ((6 : Int) = 4) := by decide
    have d5 : ¬ ((6 : Int) = 5) := by decide
    obtain ⟨X, hX⟩ : ∃ X, X = [D.str (PySem.Str.ofString "00"), .str (PySem.Str.ofString "0"), .str (PySem.Str.ofString "1234567"), .str (PySem.Str.ofString "256"), .str (PySem.Str.ofString "\n"), .str (PySem.Str.ofString "  "), .str (PySem.Str.ofString " padding")] := ⟨_, rfl⟩
    have hXz : fznL X = true := by rw [hX]; rfl
    have hXf : fzL X = X := by rw [hX]; rfl
    obtain ⟨r, b8, t8, hr, hb8⟩ := of_spec (d := .lst false X) (xs := X) hb7 (by omega) (.inl rfl) (by rw [hX]; simp) (by rw [hX]; decide) hXz
    obtain ⟨rs, rfl, hrs⟩ : ∃ s : Str, r = .str s ∧ s.length ≤ 8 := by
      rw [hX] at hr
      simp only [List.mem_cons, List.not_mem_nil, or_false] at hr
      rcases hr with rfl | rfl | rfl | rfl | rfl | rfl | rfl <;> exact ⟨_, rfl, by rw [len_tl, tl_ofString]; decide⟩
    have f2 := sl_str63 (x := p) (a := some at_) (b := none) (by omega)
    have q2 := cut_le (x := p) (a := some at_) (b := none)
    generalize cutS p (some at_) none = x2 at *
    have f3 := add_str63 (x := x1) (y := rs) (by omega)
    have f4 := add_str63 (x := x1 ++ rs) (y := x2) (by rw [Str.length_append]; omega)
    subst hX
    refine ⟨x1 ++ rs ++ x2, b8, ?_, by rw [Str.length_append, Str.length_append]; omega, hb8.mono (by omega)⟩
    clear hXz hXf hr hb8 hpl hl hb7 hgap hsg q1 q2 hrs hsl k1 k2 l1 l2 a1 a2 w1 w2 i1 i2 j1 j2 s1 s2 hg1 c1 c2 c3 c4 c5
    walk_at "ew"
  · have c7 : way = 7 := by omega
    subst c7
    have d1 : ¬ ((7 : Int) < 2) := by decide
    have d2 : ¬ ((7 : Int) = 2) := by decide
    have d3 : ¬ ((7 : Int) = 3) := by decide
    have d4 : ¬ ((7 : Int) = 4) := by decide
    have d5 : ¬ ((7 : Int) = 5) := by decide
    have d6 : ¬ ((7 : Int) = 6) := by decide
    have f2 := sl_str63 (x := p) (a := some (at_ + 1)) (b := none) (by omega)
    have q2 := cut_le (x := p) (a := some (at_ + 1)) (b := none)
    generalize cutS p (some (at_ + 1)) none = x2 at *
    have f3 := add_str63 (x := x1) (y := sign) (by omega)
    have f4 := add_str63 (x := x1 ++ sign) (y := x2) (by rw [Str.length_append]; omega)
    refine ⟨x1 ++ sign ++ x2, b7, ?_, by rw [Str.length_append, Str.length_append]; omega, hb7.mono (by omega)⟩
    clear hpl hl hb7 hgap hsg q1 q2 hsl k1 k2 l1 l2 a1 a2 w1 w2 i1 i2 j1 j2 s1 s2 hg1 c1 c2 c3 c4 c5 c6
    walk_at "ew"
end
section
open TL (tl tl_append ext_tl len_tl mk_tl tl_ofString tl_join join_eq split_spl kind_ok split_join joinL numL tl_num numL_free)
/-! ### what the law's own lambda call tells -/
abbrev toldD (d : D) : D := .tup [.str (PySem.Str.ofString "told"), d]
abbrev lineD (k : Int) : D := .tup [.str (PySem.Str.ofString "line"), .int k]
theorem read_ok {R f : D} {e : Env} (z : fzn R = true) : m_l_read (.ok R e) [f] = .ok (toldD R) [] := by
  show fnOf 2 [false] (b_l_read f (.ok R e)) [f] = _
  unfold b_l_read
  rw [v_fn]
  walk_at "ew"
theorem read_ex {k : Int} {f : D} {e : Env} : m_l_read (.ex (xPE k) e) [f] = .ok (lineD k) [] := by
  show fnOf 2 [false] (b_l_read f (.ex (xPE k) e)) [f] = _
  have h1 : (["ParseError"] : List String).contains "ParseError" = true := rfl
  have h2 : isSub "ParseError" "ParseError" = true := rfl
  unfold b_l_read xPE
  rw [v_fn]
  walk_at "ew"
section
variable {c : Nat} {rs : List Row} {q : Str} {x0 x1 x2 x3 x4 : Option D} {o : Bool}
theorem cap63 : capsL [5, 6] [x0, x1, x2, x3, x4, some (.str q), some (machD o c rs)] = .ok [.str q, machD false c rs] [x0, x1, x2, x3, x4, some (.str q), some (machD false c rs)] := by
  have hz := fzn_mach (c := c) (rs := rs)
  have hz' := fzn_mach' (c := c) (rs := rs)
  have hzz := fz_mach (c := c) (rs := rs)
  show lCons (eVk 5) (lCons (eVk 6) lNil) _ = _
  cases o
  · walk_at "ew"
  · walk_at "ew"
theorem z63 : fznL [.str q, machD false c rs] = true := by
  have hz := fzn_mach (c := c) (rs := rs)
  walk_at "ew"
theorem lam63 (hl : q.length ≤ 5000) : eLam [5, 6] 7 lm_l_right_k63_1 m_l_read lNil [x0, x1, x2, x3, x4, some (.str q), some (machD o c rs)] = .ok (dueD c q) [x0, x1, x2, x3, x4, some (.str q), some (machD false c rs)] := by
  have hp := parse_spec (c := c) (rs := rs) hl
  have hz := fzn_mach (c := c) (rs := rs)
  have zc := @fzn_cd
  unfold dueD
  generalize readT c q = T at *
  obtain ⟨a, k⟩ := T
  cases a with
  | none =>
    have hp : m_parse_code [machD false c rs, .str q] = .ex (xPE k) [] := hp
    have hb : lm_l_right_k63_1 [none, none, none, none, none, some (.str q), some (machD false c rs)] = .ex (xPE k) [none, none, none, none, none, some (.str q), some (machD false c rs)] := by
      unfold lm_l_right_k63_1
      walk_at "ew"
    exact v_lam cap63 v_nil z63 hb fun f c q vs => read_ex
  | some ns =>
    have hp : m_parse_code [machD false c rs, .str q] = .ok (cd ns) [] := hp
    have hb : lm_l_right_k63_1 [none, none, none, none, none, some (.str q), some (machD false c rs)] = .ok (cd ns) [none, none, none, none, none, some (.str q), some (machD false c rs)] := by
      unfold lm_l_right_k63_1
      walk_at "ew"
    exact v_lam cap63 v_nil z63 hb fun f c q vs => read_ok zc
end
theorem rowR_small {c : Nat} (hc : c ≤ 256) {x : Str} {ns : List Nat} (h : rowR c x = some ns) : ns.length ≤ x.length + 1 ∧ ∀ n ∈ ns, n < 256 := by
  unfold rowR at h
  by_cases hd : x = dashS
  · rw [if_pos hd] at h
    cases h
    exact ⟨Nat.zero_le _, fun n hn => absurd hn List.not_mem_nil⟩
  · rw [if_neg hd] at h
    by_cases ha : (wordsL x).all (okW c) = true
    · rw [if_pos ha] at h
      cases h
      refine ⟨?_, fun n hn => ?_⟩
      · rw [List.length_map]
        have := words_sum (x := x)
        omega
      · obtain ⟨w, hw, rfl⟩ := List.mem_map.mp hn
        have := List.all_eq_true.mp ha w hw
        unfold okW at this
        cases q : numW 6 w with
        | none => rw [q] at this; cases this
        | some n =>
          rw [q] at this
          have := of_decide_eq_true this
          show n < 256
          omega
    · rw [if_neg ha] at h; cases h
theorem rv_cd {ns : List Nat} (h : ∀ n ∈ ns, n < 256) (hl : ns.length ≤ 6000) : Rv 1 400000 (cd ns) := by
  unfold cd
  refine (rv_tup (n := 0) (w := 52) fun d hd => ?_).mono (Nat.le_refl _) (by rw [List.length_map]; omega)
  obtain ⟨n, hn, rfl⟩ := List.mem_map.mp hd
  exact rv_int (by have := h n hn; omega)
theorem rv_two {a b : D} {w : Nat} (ha : Rv 1 w a) (hb : Rv 1 w b) (hw : w ≤ 1000000) : Rv 2 2100000 (.tup [a, b]) := by
  refine (rv_tup (n := 1) (w := w) fun d hd => ?_).mono (Nat.le_refl _) (by simp only [List.length_cons, List.length_nil]; omega)
  simp only [List.mem_cons, List.not_mem_nil, or_false] at hd
  rcases hd with rfl | rfl
  · exact ha
  · exact hb
theorem rv_twoL {a b : D} {o : Bool} {w : Nat} (ha : Rv 1 w a) (hb : Rv 1 w b) (hw : w ≤ 1000000) : Rv 2 2100000 (.lst o [a, b]) := by
  refine (rv_lst (n := 1) (w := w) fun d hd => ?_).mono (Nat.le_refl _) (by simp only [List.length_cons, List.length_nil]; omega)
  simp only [List.mem_cons, List.not_mem_nil, or_false] at hd
  rcases hd with rfl | rfl
  · exact ha
  · exact hb
theorem rv_k {k : Int} (h : k.natAbs < 1000) : Rv 1 400000 (.int k) := (rv_int (n := 1) h).mono (Nat.le_refl _) (by decide)
theorem rv_due {c : Nat} (hc : c ≤ 256) {q : Str} (hl : q.length ≤ 5000) : Rv 2 2100000 (dueD c q) := by
  have hs : ∀ s : String, (PyData.str (PySem.Str.ofString s)).shown.length ≤ 52 → Rv 1 400000 (.str (PySem.Str.ofString s)) := fun s h => (rv_str (n := 1) h).mono (Nat.le_refl _) (by decide)
  unfold dueD readT
  obtain ⟨r, l, hr⟩ := rows_head (p := q)
  have hrl : r.length ≤ 5000 := by
    have := row_le (x := q) (w := r) (by rw [hr]; exact List.mem_cons_self ..)
    omega
  rw [hr, List.headD_cons]
  cases hR : rowR c r with
  | none =>
    simp only
    exact rv_two (w := 400000) (hs "line" (by decide +kernel)) (rv_k (by decide)) (by decide)
  | some ns =>
    show Rv 2 2100000 (match (if 1 < (r :: l).length then ((none : Option (List Nat)), (1 : Int)) else (some ns, 0)) with | (some ns, _) => toldD (cd ns) | (none, k) => lineD k)
    obtain ⟨h1, h2⟩ := rowR_small hc hR
    by_cases hn : 1 < (r :: l).length
    · rw [if_pos hn]
      exact rv_two (w := 400000) (hs "line" (by decide +kernel)) (rv_k (by decide)) (by decide)
    · rw [if_neg hn]
      exact rv_two (w := 400000) (hs "told" (by decide +kernel)) (rv_cd h2 (by omega)) (by decide)
/-! ### the page of a code -/
def iT (n : Nat) : Str := PySem.Str.ofString (toString ((n : Nat) : Int))
theorem num_iT : ∀ n, n < 256 → numW 6 (iT n) = some n := by decide +kernel
theorem len_iT : ∀ n, n < 256 → (iT n).length ≤ 3 := by decide +kernel
theorem strI_T {n : Nat} (h : n < 256) : fStrI [.int (n : Int)] = some (.str (iT n)) := by
  have : ((n : Nat) : Int).natAbs.log2 < 1920 := by
    have e : ((n : Nat) : Int).natAbs = n := by simp
    rw [e]
    rcases Nat.eq_zero_or_pos n with rfl | h0
    · decide
    · exact Nat.lt_trans ((Nat.log2_lt (by omega)).mpr (Nat.lt_trans h (by decide : 256 < 2 ^ 100))) (by decide)
  exact if_pos this
theorem free_iT {n s : Nat} (h : s < 48 ∨ 57 < s) : s ∉ tl (iT n) := by
  unfold iT
  rw [tl_num]
  exact numL_free h
def pageS (code : List Nat) : Str := if code = [] then dashS else Txt.join spS (code.map iT)
theorem mem_joinL {S : List Nat} {c : Nat} : ∀ {ps : List (List Nat)}, c ∈ joinL S ps → c ∈ S ∨ ∃ p ∈ ps, c ∈ p
  | [], h => by simp [joinL] at h
  | [p], h => .inr ⟨p, List.mem_singleton.mpr rfl, h⟩
  | p :: q :: r, h => by
    rw [joinL] at h
    rcases List.mem_append.mp h with h | h
    · exact .inr ⟨p, List.mem_cons_self .., h⟩
    · rcases List.mem_append.mp h with h | h
      · exact .inl h
      · rcases mem_joinL h with h | ⟨x, hx, h⟩
        · exact .inl h
        · exact .inr ⟨x, List.mem_cons_of_mem _ hx, h⟩
theorem page_free {code : List Nat} {s : Nat} (h : s < 48 ∨ 57 < s) (h1 : s ≠ 32) (h2 : s ≠ 45) : s ∉ tl (pageS code) := by
  unfold pageS
  split
  · rw [tl_dash]
    simpa using h2
  · rw [join_eq, tl_join, tl_sp]
    intro hm
    rcases mem_joinL hm with hm | ⟨p, hp, hm⟩
    · exact h1 (by simpa using hm)
    · rw [List.map_map] at hp
      obtain ⟨n, _, rfl⟩ := List.mem_map.mp hp
      exact free_iT h hm
theorem page_words {code : List Nat} (h : code ≠ []) : wordsL (pageS code) = code.map iT := by
  unfold pageS wordsL
  rw [if_neg h]
  refine split_join tl_sp k_sp (by simpa using h) fun p hp => ?_
  obtain ⟨n, _, rfl⟩ := List.mem_map.mp hp
  exact free_iT (by decide)
theorem page_ne {code : List Nat} (h : code ≠ []) : pageS code ≠ dashS := fun e => by
  have : (45 : Nat) ∈ tl (pageS code) := by rw [e, tl_dash]; simp
  unfold pageS at this
  rw [if_neg h, join_eq, tl_join, tl_sp] at this
  rcases mem_joinL this with hm | ⟨p, hp, hm⟩
  · simp at hm
  · rw [List.map_map] at hp
    obtain ⟨n, _, rfl⟩ := List.mem_map.mp hp
    exact free_iT (by decide) hm
theorem page_row {c : Nat} {code : List Nat} (hm : ∀ x ∈ code, x < c) (hc : c ≤ 256) : rowR c (pageS code) = some code := by
  unfold rowR
  by_cases h : code = []
  · subst h
    exact if_pos rfl
  · rw [if_neg (page_ne h), page_words h, if_pos, List.map_map]
    · congr 1
      have : ∀ x ∈ code, ((fun w => (numW 6 w).getD 0) ∘ iT) x = x := fun x hx => by
        show (numW 6 (iT x)).getD 0 = x
        rw [num_iT x (by have := hm x hx; omega)]
        rfl
      rw [List.map_congr_left this]
      exact List.map_id' _
    · rw [List.all_map]
      refine List.all_eq_true.mpr fun x hx => ?_
      show okW c (iT x) = true
      unfold okW
      rw [num_iT x (by have := hm x hx; omega)]
      exact decide_eq_true (hm x hx)
theorem page_read {c : Nat} {code : List Nat} (hm : ∀ x ∈ code, x < c) (hc : c ≤ 256) : readT c (pageS code) = (some code, 0) := by
  have hr : rowsT (pageS code) = [pageS code] := by
    have := split_join (y := nlS) tl_nl k_nl (parts := [pageS code]) (by simp) fun p hp => by
      rw [List.mem_singleton.mp hp]
      exact page_free (by decide) (by decide) (by decide)
    have e : Txt.join nlS [pageS code] = pageS code := by rw [join_eq]; rfl
    rw [e] at this
    exact this
  unfold readT
  rw [hr, List.headD_cons, page_row hm hc]
  rfl
theorem sum_iT : ∀ {code : List Nat}, (∀ x ∈ code, x < 256) → ((code.map iT).map (·.length)).sum ≤ 3 * code.length
  | [], _ => by simp
  | x :: l, h => by
    have h1 := len_iT x (h x (List.mem_cons_self ..))
    have h2 := sum_iT fun y hy => h y (List.mem_cons_of_mem x hy)
    rw [List.map_cons, List.map_cons, List.sum_cons, List.length_cons]
    omega
theorem join_page {o : Bool} {code : List Nat} (hm : ∀ x ∈ code, x < 256) (hl : code.length ≤ 1000) : fJoin spS (.lst o (code.map fun x => .str (iT x))) = some (.str (Txt.join spS (code.map iT))) ∧ (Txt.join spS (code.map iT)).length ≤ 4 * code.length := by
  have h1 := sum_iT hm
  have := fjoin_le (o := o) (a := spS) (ys := code.map iT) sp_len (by rw [List.length_map]; omega)
  rw [List.map_map, List.length_map] at this
  exact ⟨this.1, Nat.le_trans this.2 (by omega)⟩
theorem page_len {code : List Nat} (hm : ∀ x ∈ code, x < 256) (hl : code.length ≤ 1000) : (pageS code).length ≤ 4 * code.length + 1 := by
  unfold pageS
  split
  · rw [len_tl, tl_dash]; simp
  · have := (join_page (o := true) hm hl).2
    omega
theorem fz_cdL {code : List Nat} : fz (cd code) = cd code := fz_same _ fzn_cd
theorem eq_cd63 {ns : List Nat} : fEq2 (cd ns) (.tup []) = some (.bl (decide (ns = []))) ∧ fNe2 (cd ns) (.tup []) = some (.bl (!decide (ns = []))) := by
  have h1 : toPyL (ns.map fun n : Nat => D.int n) = some (ns.map fun n : Nat => PyData.int n) := toPyL_map fun r _ => by rw [toPy]
  have e1 : SeqAt.shaped (.tuple (ns.map fun n : Nat => PyData.int n)) = true := shaped_of (n := 2) (by rw [plainD]; exact plainA_map fun r hr => plain_int) (by decide)
  have e2 : SeqAt.shaped (.tuple []) = true := by decide
  have key : eqP (.tup (ns.map fun n : Nat => D.int n)) (.tup []) = some (decide (ns = [])) := by
    unfold eqP
    rw [toPy, toPy, h1]
    show (if (SeqAt.shaped (.tuple (ns.map fun n : Nat => PyData.int n)) && SeqAt.shaped (.tuple [])) = true then some (PyData.eqv (.tuple (ns.map fun n : Nat => PyData.int n)) (.tuple [])) else none) = _
    rw [e1, e2]
    cases ns with
    | nil => rfl
    | cons r fs => rfl
  constructor
  · show fEq (.tup (ns.map fun n : Nat => D.int n)) (.tup []) = _
    unfold fEq
    rw [key]
    rfl
  · show fNe (.tup (ns.map fun n : Nat => D.int n)) (.tup []) = _
    unfold fNe
    rw [key]
    rfl
theorem pages_spec {code : List Nat} (hm : ∀ x ∈ code, x < 256) (hl : code.length ≤ 1000) : m_l_cells_page [cd code] = .ok (.str (pageS code)) [] ∧ m_format_code [cd code] = .ok (.str (pageS code)) [] := by
  have hj := (join_page (o := true) hm hl).1
  have zc := @fzn_cd code
  obtain ⟨he, hn⟩ := eq_cd63 (ns := code)
  have hq : seqD (cd code) = some (code.map fun x : Nat => D.int x) := rfl
  have hc1 : cp_l_cells_page_1 [some (cd code), none] = .ok (.lst true (code.map fun x => .str (iT x))) [some (cd code), none] := by
    unfold cp_l_cells_page_1
    refine eLc_map code (fun x : Nat => .int (x : Int)) _ (e := [some (cd code), none]) ?_ rfl (Nat.le_trans hl (by decide)) fun x hx => ⟨[some (cd code), some (.int x)], rfl, ?_, rfl⟩
    · clear hj he hn hm hl
      have fc := fz_cdL (code := code)
      walk_at "ew"
    · have := strI_T (hm x hx)
      unfold ce_l_cells_page_1
      clear hj he hn hm hl hx hq zc
      walk_at "ew"
  have hc2 : cp_format_code_1 [some (cd code), none] = .ok (.lst true (code.map fun x => .str (iT x))) [some (cd code), none] := by
    unfold cp_format_code_1
    refine eLc_map code (fun x : Nat => .int (x : Int)) _ (e := [some (cd code), none]) ?_ rfl (Nat.le_trans hl (by decide)) fun x hx => ⟨[some (cd code), some (.int x)], rfl, ?_, rfl⟩
    · clear hj he hn hm hl hc1
      have fc := fz_cdL (code := code)
      walk_at "ew"
    · have := strI_T (hm x hx)
      unfold ce_format_code_1
      clear hj he hn hm hl hx hq zc hc1
      walk_at "ew"
  unfold pageS
  constructor
  · unfold m_l_cells_page b_l_cells_page
    rw [v_fn]
    by_cases h : code = []
    · rw [if_pos h]
      rw [decide_eq_true h] at hn
      clear h hj he hc2 hq hc1 zc hm hl
      generalize cd code = C at *
      walk_at "ew"
    · rw [if_neg h]
      rw [decide_eq_false h] at hn
      clear h he hc2 hq zc hm hl
      generalize cd code = C at *
      generalize (code.map fun x => D.str (iT x)) = L at *
      generalize Txt.join spS (code.map iT) = J at *
      walk_at "ew"
  · unfold m_format_code b_format_code
    rw [v_fn]
    by_cases h : code = []
    · rw [if_pos h]
      rw [decide_eq_true h] at he
      clear h hj hn hc2 hq hc1 zc hm hl
      generalize cd code = C at *
      walk_at "ew"
    · rw [if_neg h]
      rw [decide_eq_false h] at he
      clear h hn hc1 hq zc hm hl
      generalize cd code = C at *
      generalize (code.map fun x => D.str (iT x)) = L at *
      generalize Txt.join spS (code.map iT) = J at *
      walk_at "ew"
end
section
open TL (tl tl_append ext_tl len_tl mk_tl tl_ofString)
theorem kw63_2 {f : Fun} {a b : D} (ha : fzn a = true) (hb : fzn b = true) : fKw [1, 0] 2 f [a, b] = f [b, a] := by
  unfold fKw
  rw [show (fznL [a, b] && decide ([a, b].length = 2)) = true by simp only [fznL, ha, hb, Bool.and_self]; rfl]
  rfl
theorem kw63_1 {f : Fun} {a : D} (ha : fzn a = true) : fKw [0] 1 f [a] = f [a] := by
  unfold fKw
  rw [show (fznL [a] && decide ([a].length = 1)) = true by simp only [fznL, ha, Bool.and_self]; rfl]
  rfl
theorem book_is : m_l_book = m_l_machine := rfl
theorem rv_page {code : List Nat} (hm : ∀ x ∈ code, x < 256) (hl : code.length ≤ 100) : Rv 1 400000 (.str (pageS code)) := by
  have h0 : ∀ c ∈ (pageS code).cps.toList, c < 1114112 := fun c hc => by
    rcases Nat.lt_or_ge c 1114112 with g | g
    · exact g
    · exact absurd hc (page_free (by omega) (by omega) (by omega))
  have h1 := PySem.StrLaws.reprText_len (pageS code) fun c hc => Nat.lt_trans (h0 c hc) (by decide)
  have h2 := page_len hm (by omega)
  refine ⟨.str (pageS code), by rw [toPyR], rfl, Nat.zero_le _, ?_⟩
  show (reprText (pageS code)).length ≤ 400000
  omega
section
variable {c : Nat} {rs : List Row} {x4 x5 : Option D} {o : Bool} {code : List Nat} {pg : Str}
theorem step63 {N : Nat} {b : D} (hb : Bx N b) (hN : N ≤ 2 ^ 48) (hc : c ≤ 256) (hp : pg.length ≤ 205) : ∃ b' x, lb_l_right_k63_1 [some b, some (tabD c rs), some (cd code), some (.str pg), x4, x5, some (machD o c rs)] = .ok .nx [some b', some (tabD c rs), some (cd code), some (.str pg), x4, x, some (machD false c rs)] ∧ Bx (N + 50) b' := by
  obtain ⟨q, b1, t1, hq, hb1⟩ := bent_spec hb (by omega) (show pg.length ≤ 1000 by omega)
  obtain ⟨k, b2, t2, k1, k2, hb2⟩ := take_spec (m := 3) hb1 (by omega) (by omega) (by omega)
  have s1 : sAsg (gN 5) (eCall m_l_bent [.io 0, .e (eVk 3)]) [some b, some (tabD c rs), some (cd code), some (.str pg), x4, x5, some (machD o c rs)] = .ok .nx [some b1, some (tabD c rs), some (cd code), some (.str pg), x4, some (.str q), some (machD o c rs)] := by
    clear hb hb1 hb2 t2
    walk_at "ew"
  obtain ⟨q2, b3, hs2, hq2, hb3⟩ : ∃ (q2 : Str) (b3 : D), sIf (bB (e2 fEq2 (eCall m_l_take [.io 0, .e (eC (.int 3))]) (eC (.int 0)))) (sAsg (gN 5) (eCall m_l_bent [.io 0, .e (eVk 5)])) sPass [some b1, some (tabD c rs), some (cd code), some (.str pg), x4, some (.str q), some (machD o c rs)] = .ok .nx [some b3, some (tabD c rs), some (cd code), some (.str pg), x4, some (.str q2), some (machD o c rs)] ∧ q2.length ≤ 5000 ∧ Bx (N + 50) b3 := by
    by_cases h0 : k = 0
    · subst h0
      obtain ⟨q2, b3, t3, hq2, hb3⟩ := bent_spec (p := q) hb2 (by omega) (by omega)
      refine ⟨q2, b3, ?_, by omega, hb3.mono (by omega)⟩
      clear hb hb1 hb2 t1 hq hp s1 hb3 hq2 k1 k2
      walk_at "ew"
    · refine ⟨q, b2, ?_, by omega, hb2.mono (by omega)⟩
      clear hb hb1 hb2 t1 hq hp s1 k1 k2
      walk_at "ew"
  have hl := lam63 (c := c) (rs := rs) (x0 := some b3) (x1 := some (tabD c rs)) (x2 := some (cd code)) (x3 := some (.str pg)) (x4 := x4) (o := o) hq2
  have hd := due_spec (c := c) (rs := rs) hq2
  obtain ⟨y, hy⟩ := (rv_due hc hq2).repr (by decide) (by decide)
  have ft := fzn_tab (c := c) (rs := rs)
  have s3 : sIf (bB (e2 fNe2 (eL fReprV (lCons (eLam [5, 6] 7 lm_l_right_k63_1 m_l_read lNil) lNil)) (eL fReprV (lCons (eCall m_l_due [.e (eVk 1), .e (eVk 5)]) lNil)))) (sRet (eC (.bl false))) sPass [some b3, some (tabD c rs), some (cd code), some (.str pg), x4, some (.str q2), some (machD o c rs)] = .ok .nx [some b3, some (tabD c rs), some (cd code), some (.str pg), x4, some (.str q2), some (machD false c rs)] := by
    clear hb hb1 hb2 t1 hq hp s1 hs2 t2 hb3 k1 k2
    generalize dueD c q2 = D1 at *
    walk_at "ew"
  refine ⟨b3, some (.str q2), ?_, hb3⟩
  unfold lb_l_right_k63_1
  exact seq_nx s1 (seq_nx hs2 s3)
end
theorem right63 {N c L : Nat} {rs : List Row} {b : D} {code : List Nat} (h : TabOk c L rs) (hL : L ≤ 12) (hb : Bx N b) (hN : N ≤ 2 ^ 46) (hm : ∀ x ∈ code, x < c) (hl : code.length ≤ 50) : ∃ b', m_l_right_k63 [b, tabD c rs, cd code] = .ok (.bl true) [b'] ∧ Bx (N + 1000) b' := by
  have hm2 : ∀ x ∈ code, x < 256 := fun x hx => Nat.lt_of_lt_of_le (hm x hx) h.hi
  obtain ⟨hpg, hfm⟩ := pages_spec hm2 (by omega)
  have hpl := page_len hm2 (by omega)
  have hmach : m_l_book [tabD c rs] = .ok (machD true c rs) [] := by rw [book_is]; exact machine_spec h hL
  have hparse := parse_spec (c := c) (rs := rs) (p := pageS code) (by omega)
  rw [page_read hm h.hi] at hparse
  have hparse : m_parse_code [machD false c rs, .str (pageS code)] = .ok (cd code) [] := hparse
  have ft := fzn_tab (c := c) (rs := rs)
  have zc := @fzn_cd
  have hz := fzn_mach (c := c) (rs := rs)
  have hz' := fzn_mach' (c := c) (rs := rs)
  have hzz := fz_mach (c := c) (rs := rs)
  have rp := rv_page hm2 (by omega)
  have rc := rv_cd hm2 (by omega)
  generalize hpgS : pageS code = pg at *
  have k1 : fKw [0] 1 m_format_code [cd code] = .ok (.str pg) [] := by rw [kw63_1 zc]; exact hfm
  have k2 : fKw [1, 0] 2 m_parse_code [.str pg, machD false c rs] = .ok (cd code) [] := by rw [kw63_2 rfl hz]; exact hparse
  obtain ⟨y1, hy1⟩ := (rv_twoL (o := true) rp rp (by decide)).repr (by decide) (by decide)
  obtain ⟨y2, hy2⟩ := (rv_twoL (o := true) rc rc (by decide)).repr (by decide) (by decide)
  obtain ⟨e', g1, bb, o, x4, x5, rfl, g2⟩ := for_inv (g := gN 4) (m := lb_l_right_k63_1) ((List.range 12).map fun k : Nat => .int (k : Int)) (fun i env => ∃ (b : D) (o : Bool) (x4 x5 : Option D), env = [some b, some (tabD c rs), some (cd code), some (.str pg), x4, x5, some (machD o c rs)] ∧ Bx (N + 50 * i) b) (by
    rintro i d _ hd ⟨b, o, x4, x5, rfl, q1⟩
    have hi : i < 12 := by
      rcases Nat.lt_or_ge i 12 with g | g
      · exact g
      · rw [List.getElem?_eq_none (by simpa using g)] at hd; cases hd
    rw [List.getElem?_map, List.getElem?_range hi] at hd
    cases hd
    obtain ⟨b', x, f1, f2⟩ := step63 (x4 := some (.int i)) (x5 := x5) (o := o) (code := code) (rs := rs) q1 (by omega) h.hi (show pg.length ≤ 205 by omega)
    exact ⟨_, _, rfl, .inl f1, b', false, _, _, rfl, f2.mono (by omega)⟩) (env := [some b, some (tabD c rs), some (cd code), some (.str pg), none, none, some (machD false c rs)]) ⟨b, false, none, none, rfl, hb⟩
  have hlp : lp_l_right_k63_1 [some b, some (tabD c rs), some (cd code), some (.str pg), none, none, some (machD false c rs)] = .ok .nx [some bb, some (tabD c rs), some (cd code), some (.str pg), x4, x5, some (machD o c rs)] := by
    unfold lp_l_right_k63_1
    rw [← g1]
    have r12 : rng1 [.int 12] = some ((List.range 12).map fun k : Nat => D.int (k : Int)) := rng1_n (j := 12) (by omega)
    clear g1 hpg hfm hmach hparse k1 k2 hy1 hy2 hb g2 rp rc hm hm2 hpl h
    walk_at "ew"
  refine ⟨bb, ?_, g2.mono (by rw [List.length_map, List.length_range]; omega)⟩
  unfold m_l_right_k63 b_l_right_k63
  rw [v_fn]
  walk_at "env"
  clear g1 g2 hb rp rc hm hm2 hpl h
  refine fin_seq (e := [some b, some (tabD c rs), some (cd code), some (.str pg), none, none, some (machD true c rs)]) (by clear hlp hy1 hy2 k1 k2 hparse hfm; walk_at "ew") ?_
  refine fin_seq (e := [some b, some (tabD c rs), some (cd code), some (.str pg), none, none, some (machD true c rs)]) (by clear hlp hy2 k2 hparse hpg hmach; walk_at "ew") ?_
  refine fin_seq (e := [some b, some (tabD c rs), some (cd code), some (.str pg), none, none, some (machD false c rs)]) (by clear hlp hy1 k1 hfm hpg hmach; walk_at "ew") ?_
  refine fin_seq hlp ?_
  clear hlp hy1 hy2 k1 k2 hparse hfm hpg hmach
  walk_at "ew"
/-! ### the law -/
theorem draws63 {N c L : Nat} {rs : List Row} {b S : D} {k : Nat} {x4 x6 : Option D} (h : TabOk c L rs) (hb : Bx N b) (hN : N ≤ 2 ^ 46) : ∃ (ns : List Nat) (b' : D), cp_law_k63_2 [some S, some (.int (k : Int)), some b, some (tabD c rs), x4, none, x6] = .ok (.lst true (ns.map fun x : Nat => .int x)) [some S, some (.int (k : Int)), some b', some (tabD c rs), x4, none, x6] ∧ ns.length = 6 ∧ (∀ x ∈ ns, x < c) ∧ Bx (N + 6) b' := by
  have r6 : rng1 [.int 6] = some ((List.range 6).map fun k : Nat => D.int (k : Int)) := rng1_n (j := 6) (by omega)
  have hT : fIx (tabD c rs) (.int 0) = some (.int c) := rfl
  obtain ⟨r, e', g1, ns, b', q1, q2, q3, q4, q5⟩ := eLc_inv (it := iOf rng1 (lCons (eC (.int 6)) lNil)) (g := gN 5) (m := ce_law_k63_2) (ws := [5]) (env := [some S, some (.int (k : Int)), some b, some (tabD c rs), x4, none, x6]) (e := [some S, some (.int (k : Int)), some b, some (tabD c rs), x4, none, x6]) (ds := (List.range 6).map fun k : Nat => D.int (k : Int)) (by clear hb hT; walk_at "ew") (by rw [List.length_map, List.length_range]; exact Nat.le_trans (by decide : 6 ≤ 100) (by decide)) (fun i acc env => ∃ (ns : List Nat) (b : D), acc = ns.map (fun x : Nat => D.int x) ∧ ns.length = i ∧ (∀ x ∈ ns, x < c) ∧ env = [some S, some (.int (k : Int)), some b, some (tabD c rs), x4, none, x6] ∧ Bx (N + i) b) ⟨[], b, rfl, rfl, fun x hx => absurd hx List.not_mem_nil, rfl, hb⟩ (by
    rintro i d acc env hd ⟨ns, b1, rfl, q2, q3, rfl, q5⟩
    obtain ⟨j, b2, t, j1, j2, hb2⟩ := take_spec (m := (c : Int)) q5 (by
      have hi : i < 6 := by
        rcases Nat.lt_or_ge i 6 with g | g
        · exact g
        · rw [List.getElem?_eq_none (by simpa using g)] at hd; cases hd
      omega) (by have := h.lo; omega) (by have := h.hi; omega)
    obtain ⟨j, rfl⟩ := Int.eq_ofNat_of_zero_le j1
    refine ⟨_, [some S, some (.int (k : Int)), some b2, some (tabD c rs), x4, some d, x6], .int (j : Int), rfl, ?_, ns ++ [j], b2, by rw [List.map_append]; rfl, by rw [List.length_append, q2]; rfl, ?_, rfl, hb2⟩
    · unfold ce_law_k63_2
      clear hb q5 hb2 j1 j2 hd r6
      walk_at "ew"
    · intro x hx
      rcases List.mem_append.mp hx with hx | hx
      · exact q3 x hx
      · rw [List.mem_singleton.mp hx]; omega)
  rw [List.length_map, List.length_range] at q2 q5
  exact ⟨ns, b', by unfold cp_law_k63_2; rw [g1, q1, q4], q2, q3, q5⟩
theorem all63 {N c L : Nat} {rs : List Row} {b S : D} {k : Nat} {cs : List (List Nat)} (h : TabOk c L rs) (hL : L ≤ 12) (hb : Bx N b) (hN : N ≤ 2 ^ 45) (hlen : cs.length ≤ 10) (hcs : ∀ code ∈ cs, code.length ≤ 50 ∧ ∀ x ∈ code, x < c) : ∃ b', cp_law_k63_1 [some S, some (.int (k : Int)), some b, some (tabD c rs), some (.lst true (cs.map cd)), none, none] = .ok (.lst true ((List.range cs.length).map fun _ => .bl true)) [some S, some (.int (k : Int)), some b', some (tabD c rs), some (.lst false (cs.map cd)), none, none] := by
  have hz : fznL (cs.map cd) = true := fznL_map fun _ _ => fzn_cd
  have hz2 := fz_sameL _ hz
  have ft := fzn_tab (c := c) (rs := rs)
  have zc := @fzn_cd
  obtain ⟨r, e', g1, b', q1, q4, q5⟩ := eLc_inv (it := iSeq (eVk 4)) (g := gN 6) (m := ce_law_k63_1) (ws := [6]) (env := [some S, some (.int (k : Int)), some b, some (tabD c rs), some (.lst true (cs.map cd)), none, none]) (e := [some S, some (.int (k : Int)), some b, some (tabD c rs), some (.lst false (cs.map cd)), none, none]) (ds := cs.map cd) (by clear hb hcs; generalize cs.map cd = CS at *; walk_at "ew") (by rw [List.length_map]; exact Nat.le_trans hlen (by decide)) (fun i acc env => ∃ (b : D), acc = (List.range i).map (fun _ => D.bl true) ∧ env = [some S, some (.int (k : Int)), some b, some (tabD c rs), some (.lst false (cs.map cd)), none, none] ∧ Bx (N + 1000 * i) b) ⟨b, rfl, rfl, hb⟩ (by
    rintro i d acc env hd ⟨b1, rfl, rfl, q5⟩
    have hi : i < cs.length := by
      rcases Nat.lt_or_ge i cs.length with g | g
      · exact g
      · rw [List.getElem?_eq_none (by simpa using g)] at hd; cases hd
    rw [List.getElem?_map, List.getElem?_eq_getElem hi] at hd
    cases hd
    obtain ⟨c1, c2⟩ := hcs cs[i] (List.getElem_mem hi)
    obtain ⟨b2, t, hb2⟩ := right63 h hL q5 (by omega) c2 c1
    refine ⟨_, [some S, some (.int (k : Int)), some b2, some (tabD c rs), some (.lst false (cs.map cd)), none, some (cd cs[i])], .bl true, rfl, ?_, b2, ?_, rfl, hb2.mono (by omega)⟩
    · unfold ce_law_k63_1
      clear hb q5 hb2 hz hz2 hcs c1 c2
      generalize cs.map cd = CS at *
      walk_at "ew"
    · rw [List.range_succ, List.map_append]
      rfl)
  rw [List.length_map] at q1
  exact ⟨b', by unfold cp_law_k63_1; rw [g1, q1, q4]⟩
theorem k63_step {ns : List Int} {k : Nat} (hk : k < 4) {x2 x3 x4 x5 x6 : Option D} (h5 : x5 = none) (h6 : x6 = none) :
    ∃ z2 z3 z4 : Option D, lb_law_k63_1 [some (.scr (ns.map .int)), some (.int (k : Int)), x2, x3, x4, x5, x6] = .ok .nx [some (.scr (ns.map .int)), some (.int (k : Int)), z2, z3, z4, none, none] := by
  subst h5 h6
  obtain ⟨b, t0, hb⟩ := box_spec (ns := ns) (k := k) (by omega)
  obtain ⟨X, hX⟩ : ∃ X, X = [D.int 2, .int 5, .int 12, .int 256] := ⟨_, rfl⟩
  have hXz : fznL X = true := by rw [hX]; rfl
  obtain ⟨r, b1, t1, hr, hb1⟩ := of_spec (d := .lst false X) (xs := X) hb (by decide) (.inl rfl) (by rw [hX]; simp) (by rw [hX]; decide) hXz
  obtain ⟨mo, rfl, m1, m2⟩ : ∃ mo : Nat, r = .int (mo : Nat) ∧ 2 ≤ mo ∧ mo ≤ 256 := by
    rw [hX] at hr
    simp only [List.mem_cons, List.not_mem_nil, or_false] at hr
    rcases hr with rfl | rfl | rfl | rfl
    · exact ⟨2, rfl, by decide, by decide⟩
    · exact ⟨5, rfl, by decide, by decide⟩
    · exact ⟨12, rfl, by decide, by decide⟩
    · exact ⟨256, rfl, by decide, by decide⟩
  obtain ⟨c, rs, b2, t2, h, hcm, hb2, _⟩ := table_spec (mo := mo) (L := 12) hb1 (by decide) m1 m2 (by decide) (by decide)
  replace t2 : m_l_table [b1, .int (mo : Nat), .int 12] = .ok (tabD c rs) [b2] := t2
  obtain ⟨j, b3, t3, j1, j2, hb3⟩ := take_spec (m := 5) hb2 (by decide) (by decide) (by decide)
  obtain ⟨j, rfl⟩ := Int.eq_ofNat_of_zero_le j1
  obtain ⟨c1, b4, t4, l1, l2, hb4⟩ := bytes_spec (n := 1 + j) h hb3 (by omega) (by omega)
  replace t4 : m_l_bytes [b3, tabD c rs, .int (1 + (j : Int))] = .ok (cd c1) [b4] := by
    have : ((1 + j : Nat) : Int) = 1 + (j : Int) := by omega
    rw [← this]
    exact t4
  obtain ⟨i, b5, t5, i1, i2, hb5⟩ := take_spec (m := 41) hb4 (by omega) (by decide) (by decide)
  obtain ⟨i, rfl⟩ := Int.eq_ofNat_of_zero_le i1
  obtain ⟨c2, b6, t6, l3, l4, hb6⟩ := bytes_spec (n := i) h hb5 (by omega) (by omega)
  replace t6 : m_l_bytes [b5, tabD c rs, .int (i : Int)] = .ok (cd c2) [b6] := t6
  obtain ⟨c3, b7, t7, l5, l6, hb7⟩ := draws63 (S := .scr (ns.map .int)) (k := k) (x4 := some (.lst true [.tup [], cd c1, cd c2])) (x6 := none) h hb6 (by omega)
  obtain ⟨b8, t8⟩ := all63 (S := .scr (ns.map .int)) (k := k) (cs := [[], c1, c2, c3]) h (by decide) hb7 (by omega) (show 4 ≤ 10 by decide) (by
    intro code hc
    simp only [List.mem_cons, List.not_mem_nil, or_false] at hc
    rcases hc with rfl | rfl | rfl | rfl
    · exact ⟨by decide, fun x hx => absurd hx List.not_mem_nil⟩
    · exact ⟨by omega, l2⟩
    · exact ⟨by omega, l4⟩
    · exact ⟨by omega, l6⟩)
  have ha := all_t (o := true) (l := List.range [[], c1, c2, c3].length)
  have ft := fzn_tab (c := c) (rs := rs)
  have zc := @fzn_cd
  have zs : fznL (ns.map D.int) = true := fznL_map fun _ _ => rfl
  have tup3 : fTuple [.lst true (c3.map fun x : Nat => D.int x)] = some (cd c3) := by
    rw [tuple_l, fznL_ints]
    rfl
  have ap := @append_4
  have cs4 : [[], c1, c2, c3].map cd = [.tup [], cd c1, cd c2, cd c3] := rfl
  rw [cs4] at t8
  generalize ((List.range [[], c1, c2, c3].length).map fun _ => D.bl true) = BS at *
  have hm : mList (4, none) (lCons (eL fTuple (lCons cp_law_k63_2 lNil)) lNil) fAppend [some (.scr (ns.map .int)), some (.int (k : Int)), some b6, some (tabD c rs), some (.lst true [.tup [], cd c1, cd c2]), none, none] = .ok .non [some (.scr (ns.map .int)), some (.int (k : Int)), some b7, some (tabD c rs), some (.lst true [.tup [], cd c1, cd c2, cd c3]), none, none] := by
    clear t0 t1 t2 t3 t4 t5 t6 t8 ha hb hb1 hb2 hb3 hb4 hb5 hb6 hb7 hX hXz cs4
    generalize (c3.map fun x : Nat => D.int x) = C3 at *
    walk_at "ew"
  refine ⟨some b8, some (tabD c rs), some (.lst false [.tup [], cd c1, cd c2, cd c3]), ?_⟩
  subst hX
  unfold lb_law_k63_1
  refine seq_nx (e := [some (.scr (ns.map .int)), some (.int (k : Int)), some b, x3, x4, none, none]) (by clear t1 t2 t3 t4 t5 t6 t7 t8 ha hb hb1 hb2 hb3 hb4 hb5 hb6 hb7 hm ap tup3 cs4; walk_at "ew") ?_
  refine seq_nx (e := [some (.scr (ns.map .int)), some (.int (k : Int)), some b2, some (tabD c rs), x4, none, none]) (by clear t0 t3 t4 t5 t6 t7 t8 ha hb hb1 hb2 hb3 hb4 hb5 hb6 hb7 hm ap tup3 cs4; walk_at "ew") ?_
  refine seq_nx (e := [some (.scr (ns.map .int)), some (.int (k : Int)), some b6, some (tabD c rs), some (.lst true [.tup [], cd c1, cd c2]), none, none]) (by clear t0 t1 t2 t7 t8 ha hb hb1 hb2 hb3 hb4 hb5 hb6 hb7 hm ap tup3 cs4; walk_at "ew") ?_
  refine seq_nx (e := [some (.scr (ns.map .int)), some (.int (k : Int)), some b7, some (tabD c rs), some (.lst true [.tup [], cd c1, cd c2, cd c3]), none, none]) (by rw [v_expr, hm, b_bo]) ?_
  clear t0 t1 t2 t3 t4 t5 t6 t7 hb hb1 hb2 hb3 hb4 hb5 hb6 hb7 hm ap tup3 cs4
  walk_at "ew"
theorem law_k63 (ns : List Int) (hn : ns.length ≤ 63) : m_law_k63 [.scr (ns.map .int)] = .ok (.bl true) [] := by
  have hu : fMin2 [.int 3, .int ((ns.map D.int).length : Nat)] = some (.int (min 3 (ns.map D.int).length : Nat)) := by
    by_cases g : ((ns.map D.int).length : Int) < 3
    · rw [show min 3 (ns.map D.int).length = (ns.map D.int).length by omega]; simp only [fMin2, g, if_true]
    · rw [show min 3 (ns.map D.int).length = 3 by omega]; simp only [fMin2, g, if_false]; rfl
  obtain ⟨v, hv, v1, v2⟩ : ∃ v : Nat, fMax2 [.int 1, .int ((min 3 (ns.map D.int).length : Nat) : Int)] = some (.int v) ∧ 1 ≤ v ∧ v ≤ 3 := by
    by_cases h : ((min 3 (ns.map D.int).length : Nat) : Int) > 1
    · exact ⟨min 3 (ns.map D.int).length, by simp only [fMax2, h, if_true], by omega, by omega⟩
    · exact ⟨1, by simp only [fMax2, h, if_false]; rfl, by omega, by omega⟩
  have zs : fznL (ns.map D.int) = true := fznL_map fun _ _ => rfl
  obtain ⟨e', k1, y1, y2, y3, y4, rfl⟩ := for_inv (g := gN 1) (m := lb_law_k63_1) ((List.range v).map fun k : Nat => .int (k : Int)) (fun i env => ∃ (y1 y2 y3 y4 : Option D), env = [some (.scr (ns.map .int)), y1, y2, y3, y4, none, none]) (by
    rintro i d _ hd ⟨y1, y2, y3, y4, rfl⟩
    have hi : i < v := by
      rcases Nat.lt_or_ge i v with g | g
      · exact g
      · rw [List.getElem?_eq_none (by simpa using g)] at hd; cases hd
    rw [List.getElem?_map, List.getElem?_range hi] at hd
    cases hd
    obtain ⟨z2, z3, z4, hz⟩ := k63_step (ns := ns) (k := i) (by omega) (x2 := y2) (x3 := y3) (x4 := y4) rfl rfl
    exact ⟨_, _, rfl, .inl hz, _, _, _, _, rfl⟩) (env := [some (.scr (ns.map .int)), none, none, none, none, none, none]) ⟨_, _, _, _, rfl⟩
  have hlp : lp_law_k63_1 [some (.scr (ns.map .int)), none, none, none, none, none, none] = .ok .nx [some (.scr (ns.map .int)), y1, y2, y3, y4, none, none] := by
    rw [← k1]
    unfold lp_law_k63_1
    have := rng1_n (j := v) (by omega)
    generalize ((min 3 (ns.map D.int).length : Nat) : Int) = MN at *
    clear k1 v1 v2 hn
    walk_at "ew"
  clear k1 v1 v2 hn hv hu
  unfold m_law_k63 b_law_k63
  rw [v_fn]
  walk_at "ew"
end
end Mi
set_option maxHeartbeats 4000000
namespace Mi
open PySem PySem.Spec PyProof.Rows L2 RZ Ov PpSet
abbrev s_e_ParseError : Stmt := inClass (top 4) 0
theorem sc_e_ParseError : FnScope ["self", "line"] ["self", "line"] (defScope s_e_ParseError) := ⟨rfl, rfl, rfl, by decide +kernel, rfl, by decide +kernel, by decide +kernel⟩
theorem all_mk {l : PySem.W.OpenLaw} {w : World} {K : PySem.W.Frag} {h : Heap} {mg : Str → Option Value} {fa : Addr} (X : K.In h) (G : h.Ns mainGlobals mg) (hfa : mg "law" = some (.ref fa))
    {CParseError : Addr} {nmeParseError qeParseError : Str} {NeParseError : Addr} {bseParseError bmeParseError : List Value} {sneParseError : List Str} {sbeParseError : List Value} {abeParseError : Bool} {coeParseError : Option Bool} {ddeParseError : Option Addr} {m0eParseError m1eParseError m2eParseError m3eParseError m5eParseError : Option Value}
    {feParseError : Addr} {odeParseError aneParseError : Option Addr} {sleParseError : Array (Option Value)} {oceParseError kVeParseError dceParseError pmeParseError cdeParseError cteParseError : Value}
    {COverlapError : Addr}
    {f0 : Addr} {od0 an0 : Option Addr} {sl0 : Array (Option Value)} {oc0 kV0 dc0 pm0 cd0 ct0 : Value}
    {f1 : Addr} {od1 an1 : Option Addr} {sl1 : Array (Option Value)} {oc1 kV1 dc1 pm1 cd1 ct1 : Value}
    {f2 : Addr} {od2 an2 : Option Addr} {sl2 : Array (Option Value)} {oc2 kV2 dc2 pm2 cd2 ct2 : Value}
    {f3 : Addr} {od3 an3 : Option Addr} {sl3 : Array (Option Value)} {oc3 kV3 dc3 pm3 cd3 ct3 : Value}
    {f4 : Addr} {od4 an4 : Option Addr} {sl4 : Array (Option Value)} {oc4 kV4 dc4 pm4 cd4 ct4 : Value}
    {f5 : Addr} {od5 an5 : Option Addr} {sl5 : Array (Option Value)} {oc5 kV5 dc5 pm5 cd5 ct5 : Value}
    {f6 : Addr} {od6 an6 : Option Addr} {sl6 : Array (Option Value)} {oc6 kV6 dc6 pm6 cd6 ct6 : Value}
    {f7 : Addr} {od7 an7 : Option Addr} {sl7 : Array (Option Value)} {oc7 kV7 dc7 pm7 cd7 ct7 : Value}
    {f8 : Addr} {od8 an8 : Option Addr} {sl8 : Array (Option Value)} {oc8 kV8 dc8 pm8 cd8 ct8 : Value}
    {f9 : Addr} {od9 an9 : Option Addr} {sl9 : Array (Option Value)} {oc9 kV9 dc9 pm9 cd9 ct9 : Value}
    {f10 : Addr} {od10 an10 : Option Addr} {sl10 : Array (Option Value)} {oc10 kV10 dc10 pm10 cd10 ct10 : Value}
    {f11 : Addr} {od11 an11 : Option Addr} {sl11 : Array (Option Value)} {oc11 kV11 dc11 pm11 cd11 ct11 : Value}
    {f12 : Addr} {od12 an12 : Option Addr} {sl12 : Array (Option Value)} {oc12 kV12 dc12 pm12 cd12 ct12 : Value}
    {f13 : Addr} {od13 an13 : Option Addr} {sl13 : Array (Option Value)} {oc13 kV13 dc13 pm13 cd13 ct13 : Value}
    {f14 : Addr} {od14 an14 : Option Addr} {sl14 : Array (Option Value)} {oc14 kV14 dc14 pm14 cd14 ct14 : Value}
    {f15 : Addr} {od15 an15 : Option Addr} {sl15 : Array (Option Value)} {oc15 kV15 dc15 pm15 cd15 ct15 : Value}
    {f16 : Addr} {od16 an16 : Option Addr} {sl16 : Array (Option Value)} {oc16 kV16 dc16 pm16 cd16 ct16 : Value}
    {f17 : Addr} {od17 an17 : Option Addr} {sl17 : Array (Option Value)} {oc17 kV17 dc17 pm17 cd17 ct17 : Value}
    {f18 : Addr} {od18 an18 : Option Addr} {sl18 : Array (Option Value)} {oc18 kV18 dc18 pm18 cd18 ct18 : Value}
    {f19 : Addr} {od19 an19 : Option Addr} {sl19 : Array (Option Value)} {oc19 kV19 dc19 pm19 cd19 ct19 : Value}
    {f20 : Addr} {od20 an20 : Option Addr} {sl20 : Array (Option Value)} {oc20 kV20 dc20 pm20 cd20 ct20 : Value}
    {f21 : Addr} {od21 an21 : Option Addr} {sl21 : Array (Option Value)} {oc21 kV21 dc21 pm21 cd21 ct21 : Value}
    {f22 : Addr} {od22 an22 : Option Addr} {sl22 : Array (Option Value)} {oc22 kV22 dc22 pm22 ct22 : Value}
    {cc22 tt22 : Addr}
    {f23 : Addr} {od23 an23 : Option Addr} {sl23 : Array (Option Value)} {oc23 kV23 dc23 pm23 cd23 ct23 : Value}
    {CInstructionSet : Addr}
    {fCInstructionSetm0 : Addr} {odCInstructionSetm0 anCInstructionSetm0 : Option Addr} {slCInstructionSetm0 : Array (Option Value)} {ocCInstructionSetm0 kVCInstructionSetm0 dcCInstructionSetm0 pmCInstructionSetm0 cdCInstructionSetm0 ctCInstructionSetm0 : Value}
    {v_LONGEST_NAME : Value}
    {v_LETTERS : Value}
    {v_EMPTY : Value}
    {v_DIGITS : Value}
    {v_LONGEST_INSTRUCTION : Value}
    {v_MOST_DIGITS : Value}
    {v_LEAST_BYTE_COUNT : Value}
    {v_GREATEST_BYTE_COUNT : Value}
    (gCParseError : PySem.W.nsIn K mainGlobals "ParseError" = some (some (.ref CParseError)))
    (oeParseError : K.lookup CParseError = some (PySem.excClassObj nmeParseError qeParseError CParseError NeParseError bseParseError bmeParseError true sneParseError sbeParseError abeParseError coeParseError ddeParseError m0eParseError m1eParseError m2eParseError m3eParseError m5eParseError "ValueError.__new__"))
    (vEeParseError : PySem.HandSPX.refsVE bmeParseError = true)
    (saeParseError : PySem.W.findIn K (.ref CParseError) "__setattr__" = some (some (.builtin "object.__setattr__")))
    (xbeParseError : PySem.W.subIn K (.ref CParseError) (.type "BaseException") = some true)
    (xteParseError : PySem.W.typeIn K (.ref CParseError) = some (.type "type"))
    (xkeParseError : PySem.W.keepIn K (.ref CParseError) = true)
    (xgeParseError : PySem.W.findIn K (.ref CParseError) "__getattribute__" = some (some (.builtin "BaseException.__getattribute__")))
    (xGeParseError : PySem.W.findIn K (.ref CParseError) "__getattr__" = some none)
    (xceParseError : PySem.W.findIn K (.ref CParseError) "__class__" = some (some (.builtin "object.__class__")))
    (xmeParseError : PySem.W.mroIn K CParseError (.type "object") = some true)
    (xdeParseError : PySem.W.hasDictIn K CParseError = true)
    (xieParseError : PySem.W.isClsIn K CParseError = true)
    (nfeParseErrorline : PySem.W.findIn K (.ref CParseError) (PySem.Str.ofString "line") = some none)
    (aeParseError : PySem.W.findIn K (.ref CParseError) "__init__" = some (some (.ref feParseError)))
    (teParseError : PySem.W.typeIn K (.ref feParseError) = some (.type "function"))
    (leParseError : K.lookup feParseError = some ⟨oceParseError, odeParseError, .func (PySem.W.fnOf "__init__" "ParseError.__init__" (defArgs s_e_ParseError) (defBody s_e_ParseError) (defScope s_e_ParseError) .none kVeParseError dceParseError pmeParseError aneParseError cdeParseError cteParseError), sleParseError⟩)
    (ceParseError : PySem.W.codeIn K cdeParseError "ParseError.__init__" = true)
    (keParseError : PySem.W.keepIn K (.ref feParseError) = true)
    (xcg : PySem.W.specialIn K (.builtin "object.__class__") "__get__" = some (some (.builtin "getset_descriptor.__get__")))
    (xct : PySem.W.takesIn K (.builtin "object.__class__") = some true)
    (gCOverlapError : PySem.W.nsIn K mainGlobals "OverlapError" = some (some (.ref COverlapError)))
    (km_ParseError_OverlapError : PySem.W.exmOne K (.ref CParseError) (.ref COverlapError) = some true)
    (km_ParseError_ParseError : PySem.W.exmOne K (.ref CParseError) (.ref CParseError) = some true)
    (a0 : PySem.W.nsIn K mainGlobals "_law_box" = some (some (.ref f0)))
    (l0 : K.lookup f0 = some ⟨oc0, od0, .func (PySem.W.fnOf "_law_box" "_law_box" (defArgs s_l_box) (defBody s_l_box) (defScope s_l_box) .none kV0 dc0 pm0 an0 cd0 ct0), sl0⟩)
    (c0 : PySem.W.codeIn K cd0 "_law_box" = true)
    (k0 : PySem.W.keepIn K (.ref f0) = true)
    (a1 : PySem.W.nsIn K mainGlobals "_law_take" = some (some (.ref f1)))
    (l1 : K.lookup f1 = some ⟨oc1, od1, .func (PySem.W.fnOf "_law_take" "_law_take" (defArgs s_l_take) (defBody s_l_take) (defScope s_l_take) .none kV1 dc1 pm1 an1 cd1 ct1), sl1⟩)
    (c1 : PySem.W.codeIn K cd1 "_law_take" = true)
    (k1 : PySem.W.keepIn K (.ref f1) = true)
    (a2 : PySem.W.nsIn K mainGlobals "is_integer" = some (some (.ref f2)))
    (l2 : K.lookup f2 = some ⟨oc2, od2, .func (PySem.W.fnOf "is_integer" "is_integer" (defArgs s_is_integer) (defBody s_is_integer) (defScope s_is_integer) .none kV2 dc2 pm2 an2 cd2 ct2), sl2⟩)
    (c2 : PySem.W.codeIn K cd2 "is_integer" = true)
    (k2 : PySem.W.keepIn K (.ref f2) = true)
    (a3 : PySem.W.nsIn K mainGlobals "is_ascending" = some (some (.ref f3)))
    (l3 : K.lookup f3 = some ⟨oc3, od3, .func (PySem.W.fnOf "is_ascending" "is_ascending" (defArgs s_is_ascending) (defBody s_is_ascending) (defScope s_is_ascending) .none kV3 dc3 pm3 an3 cd3 ct3), sl3⟩)
    (c3 : PySem.W.codeIn K cd3 "is_ascending" = true)
    (k3 : PySem.W.keepIn K (.ref f3) = true)
    (a4 : PySem.W.nsIn K mainGlobals "is_name" = some (some (.ref f4)))
    (l4 : K.lookup f4 = some ⟨oc4, od4, .func (PySem.W.fnOf "is_name" "is_name" (defArgs s_is_name) (defBody s_is_name) (defScope s_is_name) .none kV4 dc4 pm4 an4 cd4 ct4), sl4⟩)
    (c4 : PySem.W.codeIn K cd4 "is_name" = true)
    (k4 : PySem.W.keepIn K (.ref f4) = true)
    (a5 : PySem.W.nsIn K mainGlobals "_law_cells_page" = some (some (.ref f5)))
    (l5 : K.lookup f5 = some ⟨oc5, od5, .func (PySem.W.fnOf "_law_cells_page" "_law_cells_page" (defArgs s_l_cells_page) (defBody s_l_cells_page) (defScope s_l_cells_page) .none kV5 dc5 pm5 an5 cd5 ct5), sl5⟩)
    (c5 : PySem.W.codeIn K cd5 "_law_cells_page" = true)
    (k5 : PySem.W.keepIn K (.ref f5) = true)
    (a6 : PySem.W.nsIn K mainGlobals "format_code" = some (some (.ref f6)))
    (l6 : K.lookup f6 = some ⟨oc6, od6, .func (PySem.W.fnOf "format_code" "format_code" (defArgs s_format_code) (defBody s_format_code) (defScope s_format_code) .none kV6 dc6 pm6 an6 cd6 ct6), sl6⟩)
    (c6 : PySem.W.codeIn K cd6 "format_code" = true)
    (k6 : PySem.W.keepIn K (.ref f6) = true)
    (a7 : PySem.W.nsIn K mainGlobals "number_in" = some (some (.ref f7)))
    (l7 : K.lookup f7 = some ⟨oc7, od7, .func (PySem.W.fnOf "number_in" "number_in" (defArgs s_number_in) (defBody s_number_in) (defScope s_number_in) .none kV7 dc7 pm7 an7 cd7 ct7), sl7⟩)
    (c7 : PySem.W.codeIn K cd7 "number_in" = true)
    (k7 : PySem.W.keepIn K (.ref f7) = true)
    (a8 : PySem.W.nsIn K mainGlobals "_law_number" = some (some (.ref f8)))
    (l8 : K.lookup f8 = some ⟨oc8, od8, .func (PySem.W.fnOf "_law_number" "_law_number" (defArgs s_l_number) (defBody s_l_number) (defScope s_l_number) .none kV8 dc8 pm8 an8 cd8 ct8), sl8⟩)
    (c8 : PySem.W.codeIn K cd8 "_law_number" = true)
    (k8 : PySem.W.keepIn K (.ref f8) = true)
    (a9 : PySem.W.nsIn K mainGlobals "_law_of" = some (some (.ref f9)))
    (l9 : K.lookup f9 = some ⟨oc9, od9, .func (PySem.W.fnOf "_law_of" "_law_of" (defArgs s_l_of) (defBody s_l_of) (defScope s_l_of) .none kV9 dc9 pm9 an9 cd9 ct9), sl9⟩)
    (c9 : PySem.W.codeIn K cd9 "_law_of" = true)
    (k9 : PySem.W.keepIn K (.ref f9) = true)
    (a10 : PySem.W.nsIn K mainGlobals "is_instruction" = some (some (.ref f10)))
    (l10 : K.lookup f10 = some ⟨oc10, od10, .func (PySem.W.fnOf "is_instruction" "is_instruction" (defArgs s_is_instruction) (defBody s_is_instruction) (defScope s_is_instruction) .none kV10 dc10 pm10 an10 cd10 ct10), sl10⟩)
    (c10 : PySem.W.codeIn K cd10 "is_instruction" = true)
    (k10 : PySem.W.keepIn K (.ref f10) = true)
    (a11 : PySem.W.nsIn K mainGlobals "is_code" = some (some (.ref f11)))
    (l11 : K.lookup f11 = some ⟨oc11, od11, .func (PySem.W.fnOf "is_code" "is_code" (defArgs s_is_code) (defBody s_is_code) (defScope s_is_code) .none kV11 dc11 pm11 an11 cd11 ct11), sl11⟩)
    (c11 : PySem.W.codeIn K cd11 "is_code" = true)
    (k11 : PySem.W.keepIn K (.ref f11) = true)
    (a12 : PySem.W.nsIn K mainGlobals "_law_due" = some (some (.ref f12)))
    (l12 : K.lookup f12 = some ⟨oc12, od12, .func (PySem.W.fnOf "_law_due" "_law_due" (defArgs s_l_due) (defBody s_l_due) (defScope s_l_due) .none kV12 dc12 pm12 an12 cd12 ct12), sl12⟩)
    (c12 : PySem.W.codeIn K cd12 "_law_due" = true)
    (k12 : PySem.W.keepIn K (.ref f12) = true)
    (a13 : PySem.W.nsIn K mainGlobals "_law_table" = some (some (.ref f13)))
    (l13 : K.lookup f13 = some ⟨oc13, od13, .func (PySem.W.fnOf "_law_table" "_law_table" (defArgs s_l_table) (defBody s_l_table) (defScope s_l_table) .none kV13 dc13 pm13 an13 cd13 ct13), sl13⟩)
    (c13 : PySem.W.codeIn K cd13 "_law_table" = true)
    (k13 : PySem.W.keepIn K (.ref f13) = true)
    (a14 : PySem.W.nsIn K mainGlobals "_law_bytes" = some (some (.ref f14)))
    (l14 : K.lookup f14 = some ⟨oc14, od14, .func (PySem.W.fnOf "_law_bytes" "_law_bytes" (defArgs s_l_bytes) (defBody s_l_bytes) (defScope s_l_bytes) .none kV14 dc14 pm14 an14 cd14 ct14), sl14⟩)
    (c14 : PySem.W.codeIn K cd14 "_law_bytes" = true)
    (k14 : PySem.W.keepIn K (.ref f14) = true)
    (a15 : PySem.W.nsIn K mainGlobals "are_instructions" = some (some (.ref f15)))
    (l15 : K.lookup f15 = some ⟨oc15, od15, .func (PySem.W.fnOf "are_instructions" "are_instructions" (defArgs s_are_instructions) (defBody s_are_instructions) (defScope s_are_instructions) .none kV15 dc15 pm15 an15 cd15 ct15), sl15⟩)
    (c15 : PySem.W.codeIn K cd15 "are_instructions" = true)
    (k15 : PySem.W.keepIn K (.ref f15) = true)
    (a16 : PySem.W.nsIn K mainGlobals "_law_bent" = some (some (.ref f16)))
    (l16 : K.lookup f16 = some ⟨oc16, od16, .func (PySem.W.fnOf "_law_bent" "_law_bent" (defArgs s_l_bent) (defBody s_l_bent) (defScope s_l_bent) .none kV16 dc16 pm16 an16 cd16 ct16), sl16⟩)
    (c16 : PySem.W.codeIn K cd16 "_law_bent" = true)
    (k16 : PySem.W.keepIn K (.ref f16) = true)
    (a17 : PySem.W.nsIn K mainGlobals "lines_of" = some (some (.ref f17)))
    (l17 : K.lookup f17 = some ⟨oc17, od17, .func (PySem.W.fnOf "lines_of" "lines_of" (defArgs s_lines_of) (defBody s_lines_of) (defScope s_lines_of) .none kV17 dc17 pm17 an17 cd17 ct17), sl17⟩)
    (c17 : PySem.W.codeIn K cd17 "lines_of" = true)
    (k17 : PySem.W.keepIn K (.ref f17) = true)
    (a18 : PySem.W.nsIn K mainGlobals "code_in" = some (some (.ref f18)))
    (l18 : K.lookup f18 = some ⟨oc18, od18, .func (PySem.W.fnOf "code_in" "code_in" (defArgs s_code_in) (defBody s_code_in) (defScope s_code_in) .none kV18 dc18 pm18 an18 cd18 ct18), sl18⟩)
    (c18 : PySem.W.codeIn K cd18 "code_in" = true)
    (k18 : PySem.W.keepIn K (.ref f18) = true)
    (a19 : PySem.W.nsIn K mainGlobals "parse_code" = some (some (.ref f19)))
    (l19 : K.lookup f19 = some ⟨oc19, od19, .func (PySem.W.fnOf "parse_code" "parse_code" (defArgs s_parse_code) (defBody s_parse_code) (defScope s_parse_code) .none kV19 dc19 pm19 an19 cd19 ct19), sl19⟩)
    (c19 : PySem.W.codeIn K cd19 "parse_code" = true)
    (k19 : PySem.W.keepIn K (.ref f19) = true)
    (a20 : PySem.W.nsIn K mainGlobals "_law_book" = some (some (.ref f20)))
    (l20 : K.lookup f20 = some ⟨oc20, od20, .func (PySem.W.fnOf "_law_book" "_law_book" (defArgs s_l_book) (defBody s_l_book) (defScope s_l_book) .none kV20 dc20 pm20 an20 cd20 ct20), sl20⟩)
    (c20 : PySem.W.codeIn K cd20 "_law_book" = true)
    (k20 : PySem.W.keepIn K (.ref f20) = true)
    (a21 : PySem.W.nsIn K mainGlobals "_law_read" = some (some (.ref f21)))
    (l21 : K.lookup f21 = some ⟨oc21, od21, .func (PySem.W.fnOf "_law_read" "_law_read" (defArgs s_l_read) (defBody s_l_read) (defScope s_l_read) .none kV21 dc21 pm21 an21 cd21 ct21), sl21⟩)
    (c21 : PySem.W.codeIn K cd21 "_law_read" = true)
    (k21 : PySem.W.keepIn K (.ref f21) = true)
    (a22 : PySem.W.nsIn K mainGlobals "_law_right" = some (some (.ref f22)))
    (l22 : K.lookup f22 = some ⟨oc22, od22, .func (PySem.W.fnOf "_law_right" "_law_right" (defArgs s_l_right) (defBody s_l_right) (defScope s_l_right) .none kV22 dc22 pm22 an22 (.ref cc22) ct22), sl22⟩)
    (tq22 : tabOf K cc22 = some tt22)
    (th22 : PySem.W.codeHdIn K cc22 tt22 = true)
    (tn22 : K.lookup tt22 = none)
    (tz22 : h.get? tt22 = some { cls := .none, data := .fields #[] })
    (c22 : PySem.W.codeIn K (.ref cc22) "_law_right" = true)
    (k22 : PySem.W.keepIn K (.ref f22) = true)
    (a23 : PySem.W.nsIn K mainGlobals "law" = some (some (.ref f23)))
    (l23 : K.lookup f23 = some ⟨oc23, od23, .func (PySem.W.fnOf "law" "law" (defArgs s_law) (defBody s_law) (defScope s_law) .none kV23 dc23 pm23 an23 cd23 ct23), sl23⟩)
    (c23 : PySem.W.codeIn K cd23 "law" = true)
    (k23 : PySem.W.keepIn K (.ref f23) = true)
    (gCInstructionSet : PySem.W.nsIn K mainGlobals "InstructionSet" = some (some (.ref CInstructionSet)))
    (pgCInstructionSet : PySem.W.plainGet K CInstructionSet Str.empty = true)
    (hdCInstructionSet : PySem.W.hasDictIn K CInstructionSet = true)
    (poCInstructionSet : PySem.W.plainOver K CInstructionSet = true)
    (saCInstructionSet : PySem.W.findIn K (.ref CInstructionSet) "__setattr__" = some (some (.builtin "object.__setattr__")))
    (mkCInstructionSet : PySem.W.makesIn K CInstructionSet = true)
    (kcCInstructionSet : PySem.W.keepIn K (.ref CInstructionSet) = true)
    (nCInstructionSetbyte_count : PySem.W.findIn K (.ref CInstructionSet) "byte_count" = some none)
    (nCInstructionSetinstructions : PySem.W.findIn K (.ref CInstructionSet) "instructions" = some none)
    (nCInstructionSetby_opcode : PySem.W.findIn K (.ref CInstructionSet) "by_opcode" = some none)
    (aCInstructionSetm0 : PySem.W.findIn K (.ref CInstructionSet) "__init__" = some (some (.ref fCInstructionSetm0)))
    (iCInstructionSetm0 : PySem.W.isFn K (.ref fCInstructionSetm0) = true)
    (lCInstructionSetm0 : K.lookup fCInstructionSetm0 = some ⟨ocCInstructionSetm0, odCInstructionSetm0, .func (PySem.W.fnOf "__init__" "InstructionSet.__init__" (defArgs s_InstructionSet_init) (defBody s_InstructionSet_init) (defScope s_InstructionSet_init) .none kVCInstructionSetm0 dcCInstructionSetm0 pmCInstructionSetm0 anCInstructionSetm0 cdCInstructionSetm0 ctCInstructionSetm0), slCInstructionSetm0⟩)
    (cCInstructionSetm0 : PySem.W.codeIn K cdCInstructionSetm0 "InstructionSet.__init__" = true)
    (kCInstructionSetm0 : PySem.W.keepIn K (.ref fCInstructionSetm0) = true)
    (q_LONGEST_NAME : PySem.W.nsIn K mainGlobals "LONGEST_NAME" = some (some v_LONGEST_NAME))
    (r_LONGEST_NAME : L2.RelV (.int 8) v_LONGEST_NAME)
    (q_LETTERS : PySem.W.nsIn K mainGlobals "LETTERS" = some (some v_LETTERS))
    (r_LETTERS : L2.RelV (.str (PySem.Str.ofString "abcdefghijklmnopqrstuvwxyz")) v_LETTERS)
    (q_EMPTY : PySem.W.nsIn K mainGlobals "EMPTY" = some (some v_EMPTY))
    (r_EMPTY : L2.RelV (.str (PySem.Str.ofString "-")) v_EMPTY)
    (q_DIGITS : PySem.W.nsIn K mainGlobals "DIGITS" = some (some v_DIGITS))
    (r_DIGITS : L2.RelV (.str (PySem.Str.ofString "0123456789")) v_DIGITS)
    (q_LONGEST_INSTRUCTION : PySem.W.nsIn K mainGlobals "LONGEST_INSTRUCTION" = some (some v_LONGEST_INSTRUCTION))
    (r_LONGEST_INSTRUCTION : L2.RelV (.int 12) v_LONGEST_INSTRUCTION)
    (q_MOST_DIGITS : PySem.W.nsIn K mainGlobals "MOST_DIGITS" = some (some v_MOST_DIGITS))
    (r_MOST_DIGITS : L2.RelV (.int 6) v_MOST_DIGITS)
    (q_LEAST_BYTE_COUNT : PySem.W.nsIn K mainGlobals "LEAST_BYTE_COUNT" = some (some v_LEAST_BYTE_COUNT))
    (r_LEAST_BYTE_COUNT : L2.RelV (.int 2) v_LEAST_BYTE_COUNT)
    (q_GREATEST_BYTE_COUNT : PySem.W.nsIn K mainGlobals "GREATEST_BYTE_COUNT" = some (some v_GREATEST_BYTE_COUNT))
    (r_GREATEST_BYTE_COUNT : L2.RelV (.int 256) v_GREATEST_BYTE_COUNT)
    (b_len : PySem.W.nsIn K mainGlobals "len" = some none)
    (b_abs : PySem.W.nsIn K mainGlobals "abs" = some none)
    (b_int : PySem.W.nsIn K mainGlobals "int" = some none)
    (b_bool : PySem.W.nsIn K mainGlobals "bool" = some none)
    (b_str : PySem.W.nsIn K mainGlobals "str" = some none)
    (b_tuple : PySem.W.nsIn K mainGlobals "tuple" = some none)
    (b_list : PySem.W.nsIn K mainGlobals "list" = some none)
    (b_dict : PySem.W.nsIn K mainGlobals "dict" = some none)
    (b_set : PySem.W.nsIn K mainGlobals "set" = some none)
    (b_range : PySem.W.nsIn K mainGlobals "range" = some none)
    (b_zip : PySem.W.nsIn K mainGlobals "zip" = some none)
    (b_enumerate : PySem.W.nsIn K mainGlobals "enumerate" = some none)
    (b_all : PySem.W.nsIn K mainGlobals "all" = some none)
    (b_any : PySem.W.nsIn K mainGlobals "any" = some none)
    (b_sum : PySem.W.nsIn K mainGlobals "sum" = some none)
    (b_min : PySem.W.nsIn K mainGlobals "min" = some none)
    (b_max : PySem.W.nsIn K mainGlobals "max" = some none)
    (b_sorted : PySem.W.nsIn K mainGlobals "sorted" = some none)
    (b_repr : PySem.W.nsIn K mainGlobals "repr" = some none)
    (b_isinstance : PySem.W.nsIn K mainGlobals "isinstance" = some none)
    : ∃ (fd : FuncData) (cs : List (Addr × Addr)), (∀ p ∈ cs, h.get? p.2 = some { cls := .none, data := .fields #[] }) ∧ (∀ p ∈ cs, K.lookup p.2 = none) ∧ (∀ p ∈ cs, PySem.W.CodeHd h p.1 p.2) ∧ (∀ (s : Shared) (v : Value), BindsTo s fd ⟨[v], []⟩ [("_law_script", v)]) ∧
      ∀ base : Heap, K.In base → base.Ns mainGlobals mg → (∀ p ∈ cs, LamX.TabB base mg p.1 p.2) → FnG l.prog w K mg base CX0 30 fa fd ["_law_script"] (spLawT K cs) := by
  have e := hfa.symm.trans (PySem.W.mg_of X G a23)
  cases e
  refine ⟨PySem.W.fnOf "law" "law" (defArgs s_law) (defBody s_law) (defScope s_law) .none kV23 dc23 pm23 an23 cd23 ct23, [(cc22, tt22)], fun p hp => by
    simp only [List.mem_cons, List.not_mem_nil, or_false] at hp
    obtain rfl := hp
    · exact tz22
    , fun p hp => by
    simp only [List.mem_cons, List.not_mem_nil, or_false] at hp
    obtain rfl := hp
    · exact tn22
    , fun p hp => by
    simp only [List.mem_cons, List.not_mem_nil, or_false] at hp
    obtain rfl := hp
    · exact PySem.W.codeHd_of_K X th22
    , fun s v => .of_eq rfl, ?_⟩
  intro base _ _ hTB
  have A_l_box : At K mg "_law_box" s_l_box _ _ := ⟨fun_mk (st := s_l_box) l0 c0 k0, PySem.W.mg_of X G a0⟩
  have A_l_take : At K mg "_law_take" s_l_take _ _ := ⟨fun_mk (st := s_l_take) l1 c1 k1, PySem.W.mg_of X G a1⟩
  have A_is_integer : At K mg "is_integer" s_is_integer _ _ := ⟨fun_mk (st := s_is_integer) l2 c2 k2, PySem.W.mg_of X G a2⟩
  have A_is_ascending : At K mg "is_ascending" s_is_ascending _ _ := ⟨fun_mk (st := s_is_ascending) l3 c3 k3, PySem.W.mg_of X G a3⟩
  have A_is_name : At K mg "is_name" s_is_name _ _ := ⟨fun_mk (st := s_is_name) l4 c4 k4, PySem.W.mg_of X G a4⟩
  have A_l_cells_page : At K mg "_law_cells_page" s_l_cells_page _ _ := ⟨fun_mk (st := s_l_cells_page) l5 c5 k5, PySem.W.mg_of X G a5⟩
  have A_format_code : At K mg "format_code" s_format_code _ _ := ⟨fun_mk (st := s_format_code) l6 c6 k6, PySem.W.mg_of X G a6⟩
  have A_number_in : At K mg "number_in" s_number_in _ _ := ⟨fun_mk (st := s_number_in) l7 c7 k7, PySem.W.mg_of X G a7⟩
  have A_l_number : At K mg "_law_number" s_l_number _ _ := ⟨fun_mk (st := s_l_number) l8 c8 k8, PySem.W.mg_of X G a8⟩
  have A_l_of : At K mg "_law_of" s_l_of _ _ := ⟨fun_mk (st := s_l_of) l9 c9 k9, PySem.W.mg_of X G a9⟩
  have A_is_instruction : At K mg "is_instruction" s_is_instruction _ _ := ⟨fun_mk (st := s_is_instruction) l10 c10 k10, PySem.W.mg_of X G a10⟩
  have A_is_code : At K mg "is_code" s_is_code _ _ := ⟨fun_mk (st := s_is_code) l11 c11 k11, PySem.W.mg_of X G a11⟩
  have A_l_due : At K mg "_law_due" s_l_due _ _ := ⟨fun_mk (st := s_l_due) l12 c12 k12, PySem.W.mg_of X G a12⟩
  have A_l_table : At K mg "_law_table" s_l_table _ _ := ⟨fun_mk (st := s_l_table) l13 c13 k13, PySem.W.mg_of X G a13⟩
  have A_l_bytes : At K mg "_law_bytes" s_l_bytes _ _ := ⟨fun_mk (st := s_l_bytes) l14 c14 k14, PySem.W.mg_of X G a14⟩
  have A_are_instructions : At K mg "are_instructions" s_are_instructions _ _ := ⟨fun_mk (st := s_are_instructions) l15 c15 k15, PySem.W.mg_of X G a15⟩
  have A_l_bent : At K mg "_law_bent" s_l_bent _ _ := ⟨fun_mk (st := s_l_bent) l16 c16 k16, PySem.W.mg_of X G a16⟩
  have A_lines_of : At K mg "lines_of" s_lines_of _ _ := ⟨fun_mk (st := s_lines_of) l17 c17 k17, PySem.W.mg_of X G a17⟩
  have A_code_in : At K mg "code_in" s_code_in _ _ := ⟨fun_mk (st := s_code_in) l18 c18 k18, PySem.W.mg_of X G a18⟩
  have A_parse_code : At K mg "parse_code" s_parse_code _ _ := ⟨fun_mk (st := s_parse_code) l19 c19 k19, PySem.W.mg_of X G a19⟩
  have A_l_book : At K mg "_law_book" s_l_book _ _ := ⟨fun_mk (st := s_l_book) l20 c20 k20, PySem.W.mg_of X G a20⟩
  have A_l_read : At K mg "_law_read" s_l_read _ _ := ⟨fun_mk (st := s_l_read) l21 c21 k21, PySem.W.mg_of X G a21⟩
  have A_law : At K mg "law" s_law _ _ := ⟨fun_mk (st := s_law) l23 c23 k23, PySem.W.mg_of X G a23⟩
  have clCInstructionSet : Cls K CInstructionSet := ⟨pgCInstructionSet, hdCInstructionSet, poCInstructionSet, saCInstructionSet⟩
  have F_InstructionSet_init := fun_mk (st := s_InstructionSet_init) lCInstructionSetm0 cCInstructionSetm0 kCInstructionSetm0
  have M_InstructionSet_init : Meth K CInstructionSet "__init__" _ := ⟨aCInstructionSetm0, iCInstructionSetm0, kCInstructionSetm0⟩
  have K_InstructionSet : Mk K CInstructionSet _ := ⟨mkCInstructionSet, aCInstructionSetm0, iCInstructionSetm0, kcCInstructionSet⟩
  have c_LONGEST_NAME : ∃ u, mg "LONGEST_NAME" = some u ∧ L2.RelV (.int 8) u := ⟨_, PySem.W.mg_of X G q_LONGEST_NAME, r_LONGEST_NAME⟩
  have c_LETTERS : ∃ u, mg "LETTERS" = some u ∧ L2.RelV (.str (PySem.Str.ofString "abcdefghijklmnopqrstuvwxyz")) u := ⟨_, PySem.W.mg_of X G q_LETTERS, r_LETTERS⟩
  have c_EMPTY : ∃ u, mg "EMPTY" = some u ∧ L2.RelV (.str (PySem.Str.ofString "-")) u := ⟨_, PySem.W.mg_of X G q_EMPTY, r_EMPTY⟩
  have c_DIGITS : ∃ u, mg "DIGITS" = some u ∧ L2.RelV (.str (PySem.Str.ofString "0123456789")) u := ⟨_, PySem.W.mg_of X G q_DIGITS, r_DIGITS⟩
  have c_LONGEST_INSTRUCTION : ∃ u, mg "LONGEST_INSTRUCTION" = some u ∧ L2.RelV (.int 12) u := ⟨_, PySem.W.mg_of X G q_LONGEST_INSTRUCTION, r_LONGEST_INSTRUCTION⟩
  have c_MOST_DIGITS : ∃ u, mg "MOST_DIGITS" = some u ∧ L2.RelV (.int 6) u := ⟨_, PySem.W.mg_of X G q_MOST_DIGITS, r_MOST_DIGITS⟩
  have c_LEAST_BYTE_COUNT : ∃ u, mg "LEAST_BYTE_COUNT" = some u ∧ L2.RelV (.int 2) u := ⟨_, PySem.W.mg_of X G q_LEAST_BYTE_COUNT, r_LEAST_BYTE_COUNT⟩
  have c_GREATEST_BYTE_COUNT : ∃ u, mg "GREATEST_BYTE_COUNT" = some u ∧ L2.RelV (.int 256) u := ⟨_, PySem.W.mg_of X G q_GREATEST_BYTE_COUNT, r_GREATEST_BYTE_COUNT⟩
  have T : Blt mg := ⟨PySem.W.mg_none_of X G b_len, PySem.W.mg_none_of X G b_abs, PySem.W.mg_none_of X G b_int, PySem.W.mg_none_of X G b_bool, PySem.W.mg_none_of X G b_str, PySem.W.mg_none_of X G b_tuple, PySem.W.mg_none_of X G b_list, PySem.W.mg_none_of X G b_dict, PySem.W.mg_none_of X G b_set, PySem.W.mg_none_of X G b_range, PySem.W.mg_none_of X G b_zip, PySem.W.mg_none_of X G b_enumerate, PySem.W.mg_none_of X G b_all, PySem.W.mg_none_of X G b_any, PySem.W.mg_none_of X G b_sum, PySem.W.mg_none_of X G b_min, PySem.W.mg_none_of X G b_max, PySem.W.mg_none_of X G b_sorted, PySem.W.mg_none_of X G b_repr, PySem.W.mg_none_of X G b_isinstance⟩
  let cls : String → Option Addr := fun c => if c = "InstructionSet" then some CInstructionSet else if c = "ParseError" then some CParseError else none
  have hcInstructionSet : cls "InstructionSet" = some CInstructionSet := by simp [cls]
  have hcParseError : cls "ParseError" = some CParseError := by simp [cls]
  have A_l_right : MakL K mg base [(tt22, lamQ "_law_right")] "_law_right" s_l_right _ _ cc22 tt22 := ⟨⟨oc22, od22, kV22, dc22, pm22, an22, ct22, sl22, rfl, l22, c22⟩, PySem.W.mg_of X G a22, k22, hTB (cc22, tt22) (by simp), by simp, fun q hq e => by
      simp only [List.mem_cons, List.not_mem_nil, or_false] at hq
      obtain rfl := hq
      · rfl
    ⟩
  have t_ex : ExcL K cls ["ParseError"] := (allL_cons hcParseError (⟨xieParseError, xgeParseError, xGeParseError, xbeParseError, xceParseError, xcg, xct, xmeParseError, xdeParseError⟩) allL_nil)
  have t_h_OverlapError : HcT K mg cls ["ParseError"] "OverlapError" := ⟨.ref COverlapError, PySem.W.mg_of X G gCOverlapError, (allL_cons hcParseError (km_ParseError_OverlapError) allL_nil)⟩
  have t_h_ParseError : HcT K mg cls ["ParseError"] "ParseError" := ⟨.ref CParseError, PySem.W.mg_of X G gCParseError, (allL_cons hcParseError (km_ParseError_ParseError) allL_nil)⟩
  have t_x_line : ∀ c Ca, ["ParseError"].contains c = true → cls c = some Ca → PySem.W.findIn K (.ref Ca) (PySem.Str.ofString "line") = some none := (allL_cons hcParseError (nfeParseErrorline) allL_nil)
  have x_ParseError : OexC K CParseError := ⟨⟨_, _, _, _, _, _, _, _, _, _, _, _, _, _, _, oeParseError, vEeParseError⟩, saeParseError, xbeParseError, xteParseError, xkeParseError⟩
  have F_ParseError := fun_mk (st := s_e_ParseError) leParseError ceParseError keParseError
  have t_e_ParseError : ErrT l.prog w K mg base cls "ParseError" "line" := ⟨CParseError, hcParseError, x_ParseError, PySem.W.mg_of X G gCParseError, feParseError, _, _, aeParseError, teParseError, err_fn F_ParseError x_ParseError nfeParseErrorline sc_e_ParseError rfl (Or.inl rfl) (Or.inl rfl) (by decide) (by decide) (fun _ => rfl), F_ParseError.binds (fun _ _ _ _ _ _ us hl => match us, hl with | [_, _], _ => rfl)⟩
  have TT : TX l.prog w K mg base cls [(tt22, lamQ "_law_right")] := ⟨T, t_ex, t_h_OverlapError, t_h_ParseError, t_x_line, t_e_ParseError, ⟨_, _, A_l_box⟩, ⟨_, _, A_l_take⟩, ⟨_, _, A_is_integer⟩, ⟨_, _, A_is_ascending⟩, ⟨_, _, A_is_name⟩, ⟨_, _, A_l_cells_page⟩, ⟨_, _, A_format_code⟩, ⟨_, _, A_number_in⟩, ⟨_, _, A_l_number⟩, ⟨_, _, A_l_of⟩, ⟨_, _, A_is_instruction⟩, ⟨_, _, A_is_code⟩, ⟨_, _, A_l_due⟩, ⟨_, _, A_l_table⟩, ⟨_, _, A_l_bytes⟩, ⟨_, _, A_are_instructions⟩, ⟨_, _, A_l_bent⟩, ⟨_, _, A_lines_of⟩, ⟨_, _, A_code_in⟩, ⟨CInstructionSet, hcInstructionSet, clCInstructionSet, PySem.W.mg_of X G gCInstructionSet, _, _, K_InstructionSet, F_InstructionSet_init⟩, ⟨_, _, A_parse_code⟩, ⟨_, _, A_l_book⟩, ⟨_, _, A_l_read⟩, ⟨_, _, _, _, A_l_right⟩, c_LONGEST_NAME, c_LETTERS, c_EMPTY, c_DIGITS, c_LONGEST_INSTRUCTION, c_MOST_DIGITS, c_LEAST_BYTE_COUNT, c_GREATEST_BYTE_COUNT, (by
      intro c hc
      simp only [List.mem_cons, List.not_mem_nil, or_false] at hc
      subst hc
      · exact ⟨CInstructionSet, hcInstructionSet, clCInstructionSet, nCInstructionSetbyte_count⟩
      ), (by
      intro c hc
      simp only [List.mem_cons, List.not_mem_nil, or_false] at hc
      subst hc
      · exact ⟨CInstructionSet, hcInstructionSet, clCInstructionSet, nCInstructionSetinstructions⟩
      ), (by
      intro c hc
      simp only [List.mem_cons, List.not_mem_nil, or_false] at hc
      subst hc
      · exact ⟨CInstructionSet, hcInstructionSet, clCInstructionSet, nCInstructionSetby_opcode⟩
      )⟩
  have F := fnG_mk (P := l.prog) (w := w) (base := base) A_law.fn sc_law (spM_len (C := ⟨K, cls, l.prog, w, [(tt22, lamQ "_law_right")]⟩) (xc := false) (f := m_law_k63) rfl) (body_M (n := 6) rfl (qb_law TT))
  exact FnG.mono (law_MT (cs := [(cc22, tt22)]) (by simp) F law_k63) (by decide)
end Mi
open PySem PySem.W PyProof.Rows
set_option maxRecDepth 100000 in
set_option maxHeartbeats 0 in
theorem PySem.Challenge.cw_overlapcode_k63_codes_as_text_holds : PySem.Challenge.rw_overlapcode_k63_codes_as_text.Holds := by
  w_on; o_law; k_head; (case hw => w_witness2)
  k_fill
  refine Mi.walkGT (l := PySem.Challenge.rw_overlapcode_k63_codes_as_text) (x := "_law_script") rfl rfl (fun w h Y => PySem.W.km_in_of Y) ?F
  case F =>
    intro w mg fa h Y KX G hmg
    have hz := PySem.W.km_tabs_of Y
    refine' Mi.all_mk KX G hmg ?gCParseError ?oeParseError ?vEeParseError ?saeParseError ?xbeParseError ?xteParseError ?xkeParseError ?xgeParseError ?xGeParseError ?xceParseError ?xmeParseError ?xdeParseError ?xieParseError ?nfeParseErrorline ?aeParseError ?teParseError ?leParseError ?ceParseError ?keParseError ?xcg ?xct ?gCOverlapError ?km_ParseError_OverlapError ?km_ParseError_ParseError ?a0 ?l0 ?c0 ?k0 ?a1 ?l1 ?c1 ?k1 ?a2 ?l2 ?c2 ?k2 ?a3 ?l3 ?c3 ?k3 ?a4 ?l4 ?c4 ?k4 ?a5 ?l5 ?c5 ?k5 ?a6 ?l6 ?c6 ?k6 ?a7 ?l7 ?c7 ?k7 ?a8 ?l8 ?c8 ?k8 ?a9 ?l9 ?c9 ?k9 ?a10 ?l10 ?c10 ?k10 ?a11 ?l11 ?c11 ?k11 ?a12 ?l12 ?c12 ?k12 ?a13 ?l13 ?c13 ?k13 ?a14 ?l14 ?c14 ?k14 ?a15 ?l15 ?c15 ?k15 ?a16 ?l16 ?c16 ?k16 ?a17 ?l17 ?c17 ?k17 ?a18 ?l18 ?c18 ?k18 ?a19 ?l19 ?c19 ?k19 ?a20 ?l20 ?c20 ?k20 ?a21 ?l21 ?c21 ?k21 ?a22 ?l22 ?tq22 ?th22 ?tn22 ?tz22 ?c22 ?k22 ?a23 ?l23 ?c23 ?k23 ?gCInstructionSet ?pgCInstructionSet ?hdCInstructionSet ?poCInstructionSet ?saCInstructionSet ?mkCInstructionSet ?kcCInstructionSet ?nCInstructionSetbyte_count ?nCInstructionSetinstructions ?nCInstructionSetby_opcode ?aCInstructionSetm0 ?iCInstructionSetm0 ?lCInstructionSetm0 ?cCInstructionSetm0 ?kCInstructionSetm0 ?q_LONGEST_NAME ?r_LONGEST_NAME ?q_LETTERS ?r_LETTERS ?q_EMPTY ?r_EMPTY ?q_DIGITS ?r_DIGITS ?q_LONGEST_INSTRUCTION ?r_LONGEST_INSTRUCTION ?q_MOST_DIGITS ?r_MOST_DIGITS ?q_LEAST_BYTE_COUNT ?r_LEAST_BYTE_COUNT ?q_GREATEST_BYTE_COUNT ?r_GREATEST_BYTE_COUNT ?b_len ?b_abs ?b_int ?b_bool ?b_str ?b_tuple ?b_list ?b_dict ?b_set ?b_range ?b_zip ?b_enumerate ?b_all ?b_any ?b_sum ?b_min ?b_max ?b_sorted ?b_repr ?b_isinstance
    (case gCParseError => k_is)
    (case oeParseError => k_is)
    (case vEeParseError => first | k_is | rfl | decide)
    (case saeParseError => k_is)
    (case xbeParseError => k_is)
    (case xteParseError => k_is)
    (case xkeParseError => k_is)
    (case xgeParseError => k_is)
    (case xGeParseError => k_is)
    (case xceParseError => k_is)
    (case xmeParseError => k_is)
    (case xdeParseError => k_is)
    (case xieParseError => k_is)
    (case nfeParseErrorline => k_is)
    (case aeParseError => k_is)
    (case teParseError => k_is)
    (case leParseError => k_is)
    (case ceParseError => k_is)
    (case keParseError => k_is)
    (case xcg => k_is)
    (case xct => k_is)
    (case gCOverlapError => k_is)
    (case km_ParseError_OverlapError => first | k_is | rfl | decide)
    (case km_ParseError_ParseError => first | k_is | rfl | decide)
    (case a0 => k_is)
    (case l0 => k_is)
    (case c0 => k_is)
    (case k0 => k_is)
    (case a1 => k_is)
    (case l1 => k_is)
    (case c1 => k_is)
    (case k1 => k_is)
    (case a2 => k_is)
    (case l2 => k_is)
    (case c2 => k_is)
    (case k2 => k_is)
    (case a3 => k_is)
    (case l3 => k_is)
    (case c3 => k_is)
    (case k3 => k_is)
    (case a4 => k_is)
    (case l4 => k_is)
    (case c4 => k_is)
    (case k4 => k_is)
    (case a5 => k_is)
    (case l5 => k_is)
    (case c5 => k_is)
    (case k5 => k_is)
    (case a6 => k_is)
    (case l6 => k_is)
    (case c6 => k_is)
    (case k6 => k_is)
    (case a7 => k_is)
    (case l7 => k_is)
    (case c7 => k_is)
    (case k7 => k_is)
    (case a8 => k_is)
    (case l8 => k_is)
    (case c8 => k_is)
    (case k8 => k_is)
    (case a9 => k_is)
    (case l9 => k_is)
    (case c9 => k_is)
    (case k9 => k_is)
    (case a10 => k_is)
    (case l10 => k_is)
    (case c10 => k_is)
    (case k10 => k_is)
    (case a11 => k_is)
    (case l11 => k_is)
    (case c11 => k_is)
    (case k11 => k_is)
    (case a12 => k_is)
    (case l12 => k_is)
    (case c12 => k_is)
    (case k12 => k_is)
    (case a13 => k_is)
    (case l13 => k_is)
    (case c13 => k_is)
    (case k13 => k_is)
    (case a14 => k_is)
    (case l14 => k_is)
    (case c14 => k_is)
    (case k14 => k_is)
    (case a15 => k_is)
    (case l15 => k_is)
    (case c15 => k_is)
    (case k15 => k_is)
    (case a16 => k_is)
    (case l16 => k_is)
    (case c16 => k_is)
    (case k16 => k_is)
    (case a17 => k_is)
    (case l17 => k_is)
    (case c17 => k_is)
    (case k17 => k_is)
    (case a18 => k_is)
    (case l18 => k_is)
    (case c18 => k_is)
    (case k18 => k_is)
    (case a19 => k_is)
    (case l19 => k_is)
    (case c19 => k_is)
    (case k19 => k_is)
    (case a20 => k_is)
    (case l20 => k_is)
    (case c20 => k_is)
    (case k20 => k_is)
    (case a21 => k_is)
    (case l21 => k_is)
    (case c21 => k_is)
    (case k21 => k_is)
    (case a22 => k_is)
    (case l22 => k_is)
    (case tq22 => first | k_is | rfl | decide)
    (case th22 => first | k_is | rfl | decide)
    (case tn22 => first | k_is | rfl | decide)
    (case tz22 => exact hz _ (by simp))
    (case c22 => k_is)
    (case k22 => k_is)
    (case a23 => k_is)
    (case l23 => k_is)
    (case c23 => k_is)
    (case k23 => k_is)
    (case gCInstructionSet => k_is)
    (case pgCInstructionSet => k_is)
    (case hdCInstructionSet => k_is)
    (case poCInstructionSet => k_is)
    (case saCInstructionSet => k_is)
    (case mkCInstructionSet => k_is)
    (case kcCInstructionSet => k_is)
    (case nCInstructionSetbyte_count => k_is)
    (case nCInstructionSetinstructions => k_is)
    (case nCInstructionSetby_opcode => k_is)
    (case aCInstructionSetm0 => k_is)
    (case iCInstructionSetm0 => k_is)
    (case lCInstructionSetm0 => k_is)
    (case cCInstructionSetm0 => k_is)
    (case kCInstructionSetm0 => k_is)
    (case q_LONGEST_NAME => k_is)
    (case r_LONGEST_NAME => first | exact ⟨_, rfl⟩ | exact rfl)
    (case q_LETTERS => k_is)
    (case r_LETTERS => first | exact ⟨_, rfl⟩ | exact rfl)
    (case q_EMPTY => k_is)
    (case r_EMPTY => first | exact ⟨_, rfl⟩ | exact rfl)
    (case q_DIGITS => k_is)
    (case r_DIGITS => first | exact ⟨_, rfl⟩ | exact rfl)
    (case q_LONGEST_INSTRUCTION => k_is)
    (case r_LONGEST_INSTRUCTION => first | exact ⟨_, rfl⟩ | exact rfl)
    (case q_MOST_DIGITS => k_is)
    (case r_MOST_DIGITS => first | exact ⟨_, rfl⟩ | exact rfl)
    (case q_LEAST_BYTE_COUNT => k_is)
    (case r_LEAST_BYTE_COUNT => first | exact ⟨_, rfl⟩ | exact rfl)
    (case q_GREATEST_BYTE_COUNT => k_is)
    (case r_GREATEST_BYTE_COUNT => first | exact ⟨_, rfl⟩ | exact rfl)
    (case b_len => k_is)
    (case b_abs => k_is)
    (case b_int => k_is)
    (case b_bool => k_is)
    (case b_str => k_is)
    (case b_tuple => k_is)
    (case b_list => k_is)
    (case b_dict => k_is)
    (case b_set => k_is)
    (case b_range => k_is)
    (case b_zip => k_is)
    (case b_enumerate => k_is)
    (case b_all => k_is)
    (case b_any => k_is)
    (case b_sum => k_is)
    (case b_min => k_is)
    (case b_max => k_is)
    (case b_sorted => k_is)
    (case b_repr => k_is)
    (case b_isinstance => k_is)
#print axioms PySem.Challenge.cw_overlapcode_k63_codes_as_text_holds
