import PyProof.Rows.All
import Wide.All
import OpenK.AllK
import Wide.FinOn
import HandS.ForMost
import HandS.Wide
import HandS.IsInst
import PyProof.ReprRoads
import HandS.Walk
import HandS.Zip
import HandS.TupAny
import HandS.SortInts
import HandS.More
import PyProof.StrLawsRepr
import HandS.SetKeys
import HandS.Strs
import HandS.SetBool
import HandS.Lambda
import KE.KDictKeyed
import HandS.TupMul
import HandS.Style
import HandS.Deep
import HandS.TupLe
import PyProof.StrBlock2
import HandS.Conv
import HandS.WordsDict
import PyProof.SetRoads
import HandS.DictComp
import HandS.BoundDict
import HandS.Comp
import HandS.WideMore
import HandS.NoneIn
import HandS.Defaults
import HandS.SetFor
import HandS.SortKw
import KE.DataMinMax
import KE.SortData
import KE.GoesMore
import KE.KDictCopyH
import KE.KTupTabMore
import PyProof.DictUpdate
import HandS.ExcInit
import KE.KExcIs
import HandS.ExcField
import HandS.ExcOwn
import HandS.EndTab
import KE.KEqDict
import PyProof.ExcBaseAll.ValueError
import HandS.ExcValue
import PySem.Challenge.RW_overlapcode_k20_errors
set_option Elab.async false
set_option linter.all false
set_option maxRecDepth 100000
set_option maxHeartbeats 4000000
namespace Ov
open PySem PySem.Spec PyProof.Rows L2
/-! ### calls where no repr is under way -/
structure Rm (k : Nat) (A : Around) : Prop where
  r : Room k A
  g : A.guards = some []
theorem Rm.mono {j k : Nat} {A : Around} (h : Rm k A) (l : j ≤ k) : Rm j A := ⟨h.r.mono l, h.g⟩
theorem Rm.deeper {k : Nat} {A : Around} (h : Rm (k + 1) A) (env : Env) : Rm k (A.deeper env) := ⟨h.r.deeper env, h.g⟩
structure FnG (P : Program) (w : World) (K : PySem.W.Frag) (mg : Str → Option Value) (base : Heap) (CX : CXT) (k : Nat)
    (f : Addr) (fd : FuncData) (ps : List Str) (sp : Sp) : Prop where
  len : ∀ vs H Q E, sp vs H Q E → vs.length = ps.length
  run : ∀ (A : Around) (outer : List Env) (s : Shared) (H : Hp) (args : Args) (us : List Value) (vs : List V) (Q : VK) (E : XK),
    Rm k A → Env0 P w K mg base A outer s H → BindsTo s fd args (ps.zip us) → Vals vs us → sp vs H Q E →
    codeAny (model P w) A (.call (.ref f) args) (CR CX outer P w H s Q E) s
section
variable {P : Program} {w : World} {K : PySem.W.Frag} {mg : Str → Option Value} {base : Heap} {CX : CXT} {k : Nat} {f : Addr}
theorem fnG_of {name qual : Str} {params : Arguments} {body : List Stmt} {scope : Scope} {dV kV doc pm cdv ct oc : Value}
    {an od : Option Addr} {osl : Array (Option Value)} {N ps : List Str} {sp : Sp}
    (lk : K.lookup f = some ⟨oc, od, .func (PySem.W.fnOf name qual params body scope dV kV doc pm an cdv ct), osl⟩)
    (hcd : PySem.W.codeIn K cdv qual = true) (S : FnScope N ps scope) (len : ∀ vs H Q E, sp vs H Q E → vs.length = ps.length)
    (hbody : ∀ (A : Around) (outer : List Env) (s : Shared) (H : Hp) (vs : List V) (Q : VK) (E : XK),
      Rm k (A.deeper (envOfC qual scope s.heap.objs.size f cdv)) → sp vs H Q E →
      ∃ t, PSs (cxOf CX P w K mg base N qual scope f cdv A outer s H E) body t ∧
        t { nx := fun _ H' => Q .non H', rt := Q } (start N vs) H) :
    FnG P w K mg base CX (k + 1) f (PySem.W.fnOf name qual params body scope dV kV doc pm an cdv ct) ps sp := by
  constructor
  · exact len
  intro A outer s H args us vs Q E hr e0 hb rv hsp
  have kx : K.In s.heap := e0.mod.kin.keeps (fun b o e => (e0.bs b o e).1)
  have nl : s.heap.NoLimit := e0.mod.nolimit.keeps (fun b o e => (e0.bs b o e).1)
  have hkd : ∀ y ∈ ps.zip us, scope.names.lookup y.1 = some .local ∨
      (scope.names.lookup y.1 = some .cell ∧ ((cellsFrom (s.heap.objs.size + 1) scope.names []).lookup y.1).isSome = true) := by
    rintro ⟨n, v⟩ hy
    exact (S.par n (List.of_mem_zip hy).1).elim Or.inl (fun q => Or.inr ⟨q, PySem.W.cellsFrom_some _ _ _ (.inl q)⟩)
  refine codeAny_call_function hr.r.depth (kx _ _ lk) rfl S.co S.gen rfl (PySem.W.codeRec_of kx hcd) (hb _ _ _ _ ?_)
  refine wpAny_newFunctionEnv_cells S.kind hkd ?_
  intro env he s1 x
  subst he
  constructor
  · exact nl.keeps x.toInCall.keep
  apply codeAny_func
  obtain ⟨t, ht, hq⟩ := hbody A outer s H vs Q E (hr.deeper _) hsp
  have I := inv_start (CX := CX) (E := E) S hr.r.hd e0 (len _ _ _ _ hsp) rv x
  refine wpAny_mono (ht.run [] s1 (start N vs) H _ I hq) ?_ (fun e s' hs => hs)
  intro fl s' hs
  cases fl with
  | ret u =>
    obtain ⟨v, σ', H', J, r1, q⟩ := hs
    exact ⟨v, H', J.os, J.bare, J.base, J.hok, r1, q⟩
  | next =>
    obtain ⟨σ', H', J, q⟩ := hs
    exact ⟨V.non, H', J.os, J.bare, J.base, J.hok, rfl, q⟩
  | brk => exact hs.elim fun _ h => h.elim fun _ h => False.elim h.2
  | cont => exact hs.elim fun _ h => h.elim fun _ h => False.elim h.2
theorem FnG.mono {j : Nat} {fd : FuncData} {ps : List Str} {sp : Sp} (F : FnG P w K mg base CX j f fd ps sp) (h : j ≤ k) :
    FnG P w K mg base CX k f fd ps sp := ⟨F.len, fun A o s H a us vs Q E hr => F.run A o s H a us vs Q E (hr.mono h)⟩
end
section
variable {X : Cx} {CX : CXT} {k : Nat} {f C : Addr} {fd : FuncData} {ps : List Str} {sp : Sp} {dvs : List V} {ds : List Value} {E : XK}
  {x m : Str} {p pos apos : Pos} {e o : Expr} {es : List Expr} {ta : TE} {t : TA}
theorem runG {pins : List (Addr × Obj)} {σ : L2.St} {H : Hp} {s : Shared} {Q : VK} {us : List Value} {vs : List V}
    (F : FnG X.prog X.w X.K X.mg X.base CX k f fd ps sp) (hr : Rm k X.A) (hb : Binds X.K fd ps ds) (hd : Vals dvs ds) (hx : Passes CX X E)
    (I : Inv X pins σ H s) (r : Vals vs us) (h : sp (vs ++ dvs) H Q E) :
    wpAny (model X.prog X.w) X.A (call (.ref f) us) (EP X pins σ Q) X.xe s := by
  have r2 : Vals (vs ++ dvs) (us ++ ds) := r.append hd
  have hl : (us ++ ds).length = ps.length := by rw [← r2.length]; exact F.len _ _ _ _ h
  apply wpAny_call
  refine codeAny_mono (F.run X.A X.stack s H ⟨us, []⟩ (us ++ ds) (vs ++ dvs) Q E hr I.env0 (hb s us I.kIn hl) r2 h) ?_
  intro r s' hq
  match r, hq with
  | .error e, hq => exact hx pins σ H s e s' I hq
  | .ok (.ret u), hq => exact I.after hq
theorem peG_call (F : FnG X.prog X.w X.K X.mg X.base CX k f fd ps sp) (hr : Rm k X.A) (hg : Gl X x) (hm : X.mg x = some (.ref f))
    (hk : PySem.W.keepIn X.K (.ref f) = true) (hb : Binds X.K fd ps ds) (hd : Vals dvs ds) (hx : Passes CX X E)
    (ha : PA X (e :: es) t) (hdb : (x == ("__debug__" : Str)) = false := by decide)
    (he : starEach (e :: es) X.env = (false, eval e X.env) :: starEach es X.env := by rfl)
    (hpl : (backTo pos (starEach es X.env)).any (·.1) = false := by rfl) :
    PE X (.Call (.Name x p) (e :: es) [] pos) (tCall sp dvs E t) := by
  constructor
  intro pins s σ H Q I h
  refine wpAny_Call_Name_kw (ld_glob I hg hm ?_ hdb)
  refine PySem.W.callWith_K (h₀ := X.base) I.ok.mod.kin hk ?_ he hpl
  refine thn (ha.run pos pins s σ H _ I h) ?_
  rintro us s1 ⟨vs, H1, I1, r, q⟩
  exact ⟨I1.kIn, runG F hr hb hd hx I1 r q⟩
theorem peG_meth {pl : Sem Bool} (he : PE X o ta) (c : Cls X.K C) (hm : Meth X.K C m f) (F : FnG X.prog X.w X.K X.mg X.base CX k f fd ps sp)
    (hr : Rm k X.A) (hb : Binds X.K fd ps ds) (hd : Vals dvs ds) (hx : Passes CX X E) (ha : PA X (e :: es) t)
    (hst : starEach (e :: es) X.env = (false, eval e X.env) :: starEach es X.env := by rfl)
    (hpl : (backTo pos (starEach es X.env)).any (·.1) = false := by rfl)
    (ht : eval (.Call (.Attribute o m apos) (e :: es) [] pos) X.env = (do
      let ov ← eval o X.env
      standAt apos.atName
      let (f, first) ← holding [ov] (getMethod ov m pl)
      callWith pos f first (backTo pos (starEach (e :: es) X.env)) (backToKw pos (keywordEach [] X.env))) := by rfl) :
    PE X (.Call (.Attribute o m apos) (e :: es) [] pos) (tMeth C m sp dvs E ta t) := by
  constructor
  intro pins s σ H Q I h
  refine PySem.W.methodCall_KW (pl := pl) (thn (he.run pins s σ H _ I h) ?_) ht
  rintro u s1 ⟨x, H1, I1, rx, a, dx, fs, ex, ea, l, q⟩
  subst ex
  obtain rfl : u = Value.ref a := rx
  refine getmeth_ok I1 ea c hm l ?_
  refine PySem.W.callWith_K (first := [.ref a]) (h₀ := X.base) I.ok.mod.kin hm.kp ?_ hst hpl
  refine thn (ha.run pos pins s1 σ H1 _ I1 q) ?_
  rintro us s2 ⟨vs, H2, I2, r, q2⟩
  exact ⟨I2.kIn, runG (us := .ref a :: us) (vs := .ref a :: vs) F hr hb hd hx I2 (.cons rfl r) q2⟩
theorem peG_meth0 {pl : Sem Bool} (he : PE X o ta) (c : Cls X.K C) (hm : Meth X.K C m f) (F : FnG X.prog X.w X.K X.mg X.base CX k f fd ps sp)
    (hr : Rm k X.A) (hb : Binds X.K fd ps ds) (hd : Vals dvs ds) (hx : Passes CX X E)
    (ht : eval (.Call (.Attribute o m apos) [] [] pos) X.env = (do
      let ov ← eval o X.env
      standAt apos.atName
      let (f, first) ← holding [ov] (getMethod ov m pl)
      callWith pos f first (backTo pos (starEach [] X.env)) (backToKw pos (keywordEach [] X.env))) := by rfl) :
    PE X (.Call (.Attribute o m apos) [] [] pos) (tMeth C m sp dvs E ta tNil) := by
  constructor
  intro pins s σ H Q I h
  refine PySem.W.methodCall_KW (pl := pl) (thn (he.run pins s σ H _ I h) ?_) ht
  rintro u s1 ⟨x, H1, I1, rx, a, dx, fs, ex, ea, l, q⟩
  subst ex
  obtain rfl : u = Value.ref a := rx
  refine getmeth_ok I1 ea c hm l ?_
  exact PySem.W.callWith_K0 (first := [.ref a]) I1.kIn hm.kp
    (runG (us := [.ref a]) (vs := [.ref a]) F hr hb hd hx I1 (.cons rfl .nil) q)
end
/-! ### repr of data -/
mutual
theorem noDict {K : PySem.W.Frag} {H : Hp} : ∀ (d : PyData) {x : V}, Dp K H x d → d.hasDict = false
  | .none, _, _ => rfl
  | .bool _, _, _ => rfl
  | .int _, _, _ => rfl
  | .str _, _, _ => rfl
  | .list ds, _, h => by cases h with | lst _ ha => simpa [PyData.hasDict] using noDictAll ds ha
  | .tuple ds, _, h => by cases h with | tup _ ha => simpa [PyData.hasDict] using noDictAll ds ha
  | .dict _, _, h => by cases h
theorem noDictAll {K : PySem.W.Frag} {H : Hp} : ∀ (ds : List PyData) {xs : List V}, DpAll K H xs ds → PyData.hasDictAll ds = false
  | [], _, _ => rfl
  | d :: ds, _, h => by cases h with | cons h1 h2 => simp [PyData.hasDictAll, noDict d h1, noDictAll ds h2]
end
theorem call_reprD {X : Cx} (hg : X.A.guards = some []) (hu : X.A.units + 64 < cLine) : CallR X (.builtin "repr") (fun xs H Q =>
    ∃ x d, xs = [x] ∧ Dp X.K H x d ∧ d.showable = true ∧ d.depth ≤ 60 ∧ d.shown.length ≤ sizeLine ∧ Q (.str d.shown) H) := by
  intro pins s σ H xs us Q I r h
  obtain ⟨x, d, rfl, hd, hs, hdp, hz, q⟩ := h
  cases r with
  | cons r0 r1 =>
  cases r1
  rename_i u
  obtain ⟨as, rd⟩ := Dp.reads I d x u hd r0
  have nd := noDict d hd
  cases hd with
  | non => cases r0; exact PySem.P.repr_of_none ⟨.str _, H, I.tok _, ⟨_, rfl⟩, q⟩
  | bl b => cases r0; exact PySem.P.repr_of_bool ⟨.str _, H, I.tok _, ⟨_, rfl⟩, q⟩
  | int i =>
    obtain ⟨t, rfl⟩ := r0
    exact PySem.P.repr_of_int (of_decide_eq_true hs) ⟨.str _, H, I.tok _, ⟨_, rfl⟩, q⟩
  | str z =>
    obtain ⟨t, rfl⟩ := r0
    exact PySem.P.repr_of_str ⟨.str _, H, I.tok _, ⟨_, rfl⟩, q⟩ hz
  | lst h1 h2 =>
    cases r0
    refine repr_of_reads' rd hs (fun z => by rw [nd] at z; cases z) hg (by omega) (fun _ _ e => e) ?_ hz
    intro h' u tk hk
    exact ⟨.str _, H, I.kept hk, ⟨_, rfl⟩, q⟩
  | tup h1 h2 =>
    cases r0
    refine repr_of_reads' rd hs (fun z => by rw [nd] at z; cases z) hg (by omega) (fun _ _ e => e) ?_ hz
    intro h' u tk hk
    exact ⟨.str _, H, I.kept hk, ⟨_, rfl⟩, q⟩
end Ov
set_option maxHeartbeats 4000000
namespace Ov
open PySem PySem.Spec PyProof.Rows L2
/-! ### the end of a law -/
theorem lawG {P : Program} {w : World} {K : PySem.W.Frag} {mg mb : Str → Option Value} {CX : CXT} {k : Nat} {fa a : Addr} {fd : FuncData}
    {x : Str} {sp : Sp} {s1 : Shared} {vs : List Value} {ns : List Int}
    (kx : K.In s1.heap) (hns : s1.heap.Ns mainGlobals mg) (hb : s1.heap.Ns builtinsNs mb)
    (hbb : ∀ x : Str, x ≠ "__name__" → mb x = bootBuiltins x) (hlim : s1.heap.NoLimit) (hg : s1.gens = #[])
    (ha : s1.heap.get? a = some { cls := .type "list", data := .seq vs.toArray }) (hi : IntsAre vs ns) (hl : ns.length ≤ sizeLine)
    (hr : Rm k callerA)
    (F : ∀ base : Heap, K.In base → base.Ns mainGlobals mg → FnG P w K mg base CX k fa fd [x] sp)
    (hbind : ∀ (s : Shared) (u : Value), BindsTo s fd ⟨[u], []⟩ [(x, u)])
    (hsp : ∀ H : Hp, Only H → SqL K H a (ns.map V.int) → sp [.ref a] H (fun v _ => v = .bl true) fun _ _ _ => False)
    (hCX : ∀ H e s', CX [] H s1 (fun _ _ _ => False) e s' → False) :
    codeAny (model P w) callerA (.call (.ref fa) ⟨[.ref a], []⟩)
      (fun r s' => r = .ok (.ret (.bool true)) ∧ OldK s1.heap s'.heap ∧ s'.os = s1.os ∧ AllBare s'.gens) s1 := by
  have rv := vals_ints hi
  have key : ∀ H : Hp, Only H → SqL K H a (ns.map V.int) → HOk P w H s1.heap → (∀ b, H b ≠ none → b = a) →
      (H a ≠ none → K.lookup a = none) →
      codeAny (model P w) callerA (.call (.ref fa) ⟨[.ref a], []⟩)
        (fun r s' => r = .ok (.ret (.bool true)) ∧ OldK s1.heap s'.heap ∧ s'.os = s1.os ∧ AllBare s'.gens) s1 := by
    intro H hO hS hok hA hK
    have tracked : ∀ {b : Addr}, H b = none ∨ b = a := by
      intro b
      cases q : H b with
      | none => exact Or.inl rfl
      | some u => exact Or.inr (hA b (by simp [q]))
    have nsK : ∀ {b : Addr} {m : Str → Option Value}, s1.heap.Ns b m → (hidT s1.heap H).Ns b m := by
      rintro b m ⟨o, es, ep, e, d, r⟩
      refine ⟨o, es, ep, hidT_get e ?_, d, r⟩
      rcases tracked (b := b) with z | z
      · exact z
      · subst z
        rw [ha] at e
        cases e
        cases (show Data.seq vs.toArray _ = Data.dict es ep from d)
    have kb : K.In (hidT s1.heap H) := by
      intro b o e
      refine hidT_get (kx b o e) ?_
      cases q : H b with
      | none => rfl
      | some u =>
        have z : b = a := hA b (by simp [q])
        subst z
        rw [hK (by simp [q])] at e
        cases e
    have hM : Mod K mg (hidT s1.heap H) := ⟨kb, nsK hns, ⟨mb, nsK hb, hbb⟩, let ⟨mc, h1, h2⟩ := hlim; ⟨mc, nsK h1, h2⟩⟩
    have e0 : Env0 P w K mg (hidT s1.heap H) callerA [] s1 H := by
      refine ⟨rfl, hM, fun b o e => of_hidT e, Nat.le_of_eq (hidT_size _ _), trivial, ?_, hok, .of_eq hg⟩
      intro b hb
      exact absurd (show b ∈ ([] : List Addr) from hb) List.not_mem_nil
    have run := (F _ kb (nsK hns)).run callerA [] s1 H ⟨[.ref a], []⟩ [.ref a] [.ref a] _ _ hr e0 (hbind s1 (.ref a)) (.cons rfl .nil) (hsp H hO hS)
    refine codeAny_mono run ?_
    intro r s' h
    match r, h with
    | .error e, h => exact (hCX H e s' h).elim
    | .ok (.ret u), h =>
      obtain ⟨v, H', os, bare, un, hok', r', q⟩ := h
      obtain rfl : v = .bl true := q
      obtain rfl : u = Value.bool true := r'
      refine ⟨rfl, OldK.of_keep ?_, os, bare⟩
      intro b o e
      rcases hO b with z | ⟨ob, xs, z⟩
      · exact un.keep b o e z (fun y => absurd (show b ∈ ([] : List Addr) from y) List.not_mem_nil) List.not_mem_nil
      · obtain ⟨e1, _⟩ := hok b _ z
        obtain ⟨e2, _⟩ := hok' b _ (un.frzs b ob _ z)
        rw [e] at e1
        cases e1
        exact e2
  cases hk : K.lookup a with
  | some o =>
    have e := kx a o hk
    rw [ha] at e
    cases e
    refine key (fun _ => none) (fun _ => .inl rfl) (.inr ⟨_, vs.toArray, _, hk, rfl, rfl, rfl, ?_, by simpa using rv⟩) ?_ (fun b z => absurd rfl z)
      (fun z => absurd rfl z)
    · rw [List.size_toArray, hi.length]
      exact hl
    · intro b u z
      cases (show (none : Option HO) = some u from z)
  | none =>
    refine key (fun b => if b = a then some (.frz { cls := .type "list", data := .seq vs.toArray } (.lst (ns.map V.int))) else none) ?_
      (.inl (.inr ⟨{ cls := .type "list", data := .seq vs.toArray }, if_pos rfl⟩)) ?_ ?_ (fun _ => hk)
    · intro b
      by_cases hb : b = a
      · exact .inr ⟨_, _, if_pos hb⟩
      · exact .inl (if_neg hb)
    · intro b u z
      by_cases hb : b = a
      · cases (if_pos hb).symm.trans z
        subst hb
        exact ⟨ha, by rw [List.length_map]; exact hl, vs, _, rv, ha⟩
      · cases (if_neg hb).symm.trans z
    · intro b z
      by_cases hb : b = a
      · exact hb
      · exact absurd (if_neg hb) z
/-- what a law's def must keep: a list of at most 63 ints is handed in, True comes out -/
def spLaw (K : PySem.W.Frag) : Sp := fun vs H Q _ => ∃ (a : Addr) (ns : List Int), vs = [.ref a] ∧ Only H ∧ SqL K H a (ns.map V.int) ∧ ns.length ≤ 63 ∧ ∀ H', Q (.bl true) H'
theorem room_caller : Rm 30 callerA := ⟨⟨rfl, by decide, by decide⟩, rfl⟩
theorem walkG {l : PySem.W.OpenLaw} {q : Program} {loose : List Str} {XP : (Str → Option Value) → Heap → Prop} {YP : World → Heap → Prop}
    {d : DefRec} {K : Params → PySem.W.Frag} {x : Str} (hn : l.most = some 63) (hdf : d.params.defaults = [])
    (hY : ∀ (w : World) (h : Heap), YP w h → (K w.params).In h)
    (F : ∀ (w : World) (mg : Str → Option Value) (fa : Addr) (h : Heap), (K w.params).In h → h.Ns mainGlobals mg → mg d.name = some (.ref fa) →
      ∃ fd : FuncData, (∀ (s : Shared) (u : Value), BindsTo s fd ⟨[u], []⟩ [(x, u)]) ∧
        ∀ base : Heap, (K w.params).In base → base.Ns mainGlobals mg →
          FnG l.prog w (K w.params) mg base CX0 30 fa fd [x] (spLaw (K w.params))) :
    PySem.W.WalkO q loose XP YP l.row.toRowW d [] (fun f vs => PySem.call f vs) := by
  refine Att.attach_call hn hdf ?_
  intro w s₀ s₁ mg mb fa o pm cd doc a vs ns G Y ho hd hcd hmg hobj hints hlen hg
  have kx := hY w _ Y
  obtain ⟨fd, hb, hF⟩ := F w mg fa _ kx G.T.g hmg
  refine lawG kx G.T.g G.T.b G.T.builtins G.T.nolimit hg hobj hints (Nat.le_trans hlen (by decide)) room_caller hF hb ?_ (fun _ _ _ z => z)
  intro H hO hS
  exact ⟨a, ns, rfl, hO, hS, hlen, fun _ => rfl⟩
/-! ### defs of the text -/
/-- a def of the module, without defaults -/
structure At (K : PySem.W.Frag) (mg : Str → Option Value) (x : Str) (st : Stmt) (f : Addr) (fd : FuncData) : Prop where
  fn : Fun K x x st f fd
  mgf : mg x = some (.ref f)
/-- a def that may be called by its name, every parameter given -/
structure Cal (P : Program) (w : World) (K : PySem.W.Frag) (mg : Str → Option Value) (base : Heap) (CX : CXT) (k : Nat) (x : Str) (ps : List Str) (sp : Sp) : Prop where
  ex : ∃ (f : Addr) (fd : FuncData), FnG P w K mg base CX k f fd ps sp ∧ mg x = some (.ref f) ∧ PySem.W.keepIn K (.ref f) = true ∧ Binds K fd ps [] ∧
    ∃ oc od osl, K.lookup f = some ⟨oc, od, .func fd, osl⟩
/-- a method -/
structure Met (P : Program) (w : World) (K : PySem.W.Frag) (mg : Str → Option Value) (base : Heap) (CX : CXT) (k : Nat) (C : Addr) (m : Str) (ps : List Str) (sp : Sp) : Prop where
  ex : ∃ (f : Addr) (fd : FuncData), Cls K C ∧ Meth K C m f ∧ FnG P w K mg base CX k f fd ps sp ∧ Binds K fd ps []
/-- a class to be made by its name -/
structure Mak (P : Program) (w : World) (K : PySem.W.Frag) (mg : Str → Option Value) (base : Heap) (CX : CXT) (k : Nat) (x : Str) (C : Addr) (ps : List Str) (sp : Sp) : Prop where
  ex : ∃ (f : Addr) (fd : FuncData), Mk K C f ∧ FnG P w K mg base CX k f fd ps sp ∧ mg x = some (.ref C) ∧ Binds K fd ps []
section
variable {X : Cx} {k j : Nat} {C : Addr} {x m : Str} {ps : List Str} {sp : Sp} {p pos apos : Pos} {e o : Expr} {es : List Expr} {ta : TE} {t : TA}
/-- f(e, ..) of a def that raises nothing -/
theorem pc (c : Cal X.prog X.w X.K X.mg X.base CX0 k x ps sp) (hr : Rm j X.A) (ha : PA X (e :: es) t) (hk : k ≤ j := by decide) (hg : Gl X x := by rfl)
    (hdb : (x == ("__debug__" : Str)) = false := by decide)
    (he : starEach (e :: es) X.env = (false, eval e X.env) :: starEach es X.env := by rfl)
    (hpl : (backTo pos (starEach es X.env)).any (·.1) = false := by rfl) :
    PE X (.Call (.Name x p) (e :: es) [] pos) (tCall sp [] E0 t) := by
  obtain ⟨f, fd, F, hm, kp, b, _⟩ := c.ex
  exact peG_call F (hr.mono hk) hg hm kp b .nil pass0 ha hdb he hpl
theorem pm {pl : Sem Bool} (c : Met X.prog X.w X.K X.mg X.base CX0 k C m ps sp) (hr : Rm j X.A) (ho : PE X o ta) (ha : PA X (e :: es) t) (hk : k ≤ j := by decide)
    (hst : starEach (e :: es) X.env = (false, eval e X.env) :: starEach es X.env := by rfl)
    (hpl : (backTo pos (starEach es X.env)).any (·.1) = false := by rfl)
    (ht : eval (.Call (.Attribute o m apos) (e :: es) [] pos) X.env = (do
      let ov ← eval o X.env
      standAt apos.atName
      let (f, first) ← holding [ov] (getMethod ov m pl)
      callWith pos f first (backTo pos (starEach (e :: es) X.env)) (backToKw pos (keywordEach [] X.env))) := by rfl) :
    PE X (.Call (.Attribute o m apos) (e :: es) [] pos) (tMeth C m sp [] E0 ta t) := by
  obtain ⟨f, fd, cl, me, F, b⟩ := c.ex
  exact peG_meth ho cl me F (hr.mono hk) b .nil pass0 ha hst hpl ht
theorem pm0 {pl : Sem Bool} (c : Met X.prog X.w X.K X.mg X.base CX0 k C m ps sp) (hr : Rm j X.A) (ho : PE X o ta) (hk : k ≤ j := by decide)
    (ht : eval (.Call (.Attribute o m apos) [] [] pos) X.env = (do
      let ov ← eval o X.env
      standAt apos.atName
      let (f, first) ← holding [ov] (getMethod ov m pl)
      callWith pos f first (backTo pos (starEach [] X.env)) (backToKw pos (keywordEach [] X.env))) := by rfl) :
    PE X (.Call (.Attribute o m apos) [] [] pos) (tMeth C m sp [] E0 ta tNil) := by
  obtain ⟨f, fd, cl, me, F, b⟩ := c.ex
  exact peG_meth0 ho cl me F (hr.mono hk) b .nil pass0 ht
end
section
variable {P : Program} {w : World} {K : PySem.W.Frag} {mg : Str → Option Value} {base : Heap} {k : Nat} {sp : Sp} {N ps : List Str} {st : Stmt} {f : Addr} {fd : FuncData}
/-- the body of a def that raises nothing -/
def Body (P : Program) (w : World) (K : PySem.W.Frag) (mg : Str → Option Value) (base : Heap) (k : Nat) (qual : Str) (st : Stmt) (f : Addr) (N : List Str) (sp : Sp) : Prop :=
  ∀ (cdv : Value) (A : Around) (outer : List Env) (s : Shared) (H : Hp) (vs : List V) (Q : VK) (E : XK),
    Rm k (A.deeper (envOfC qual (defScope st) s.heap.objs.size f cdv)) → sp vs H Q E →
    ∃ t, PSs (cxOf CX0 P w K mg base N qual (defScope st) f cdv A outer s H E).nox (defBody st) t ∧
      t { nx := fun _ H' => Q .non H', rt := Q } (start N vs) H
theorem fnG_mk {x qual : Str} (F : Fun K x qual st f fd) (S : FnScope N ps (defScope st)) (len : ∀ vs H Q E, sp vs H Q E → vs.length = ps.length)
    (hbody : Body P w K mg base k qual st f N sp) : FnG P w K mg base CX0 (k + 1) f fd ps sp := by
  obtain ⟨oc, od, kV, doc, pm, an, cdv, ct, osl, rfl, lk, hcd⟩ := F.ex
  refine fnG_of lk hcd S len ?_
  intro A outer s H vs Q E hr hsp
  obtain ⟨t, h, q⟩ := hbody cdv A outer s H vs Q E hr hsp
  exact ⟨t, h.nox, q⟩
theorem cal_mk {x : Str} (F : At K mg x st f fd) (b : Binds K fd ps []) (S : FnScope N ps (defScope st)) (len : ∀ vs H Q E, sp vs H Q E → vs.length = ps.length)
    (hbody : Body P w K mg base k x st f N sp) : Cal P w K mg base CX0 (k + 1) x ps sp :=
  ⟨f, fd, fnG_mk F.fn S len hbody, F.mgf, F.fn.kp, b, let ⟨oc, od, _, _, _, _, _, _, osl, _, h, _⟩ := F.fn.ex; ⟨oc, od, osl, h⟩⟩
end
end Ov
set_option maxHeartbeats 4000000
namespace Ov
open PySem PySem.Spec PyProof.Rows L2
/-- what a reading may ask for without being a loop -/
class Plain (α : Type) : Prop where
  ok : True
instance : Plain V := ⟨trivial⟩
instance : Plain Int := ⟨trivial⟩
instance : Plain Nat := ⟨trivial⟩
instance : Plain Bool := ⟨trivial⟩
instance : Plain Str := ⟨trivial⟩
instance : Plain Obj := ⟨trivial⟩
instance : Plain Value := ⟨trivial⟩
instance : Plain String := ⟨trivial⟩
instance : Plain PyData := ⟨trivial⟩
instance : Plain HO := ⟨trivial⟩
instance {α : Type} : Plain (List α) := ⟨trivial⟩
instance {α : Type} : Plain (Option α) := ⟨trivial⟩
instance {α : Type} : Plain (Array α) := ⟨trivial⟩
instance {α β : Type} : Plain (α × β) := ⟨trivial⟩
instance {α β : Type} : Plain (Sum α β) := ⟨trivial⟩
instance : Plain Hp := ⟨trivial⟩
/-! ### heaps -/
/-- all but what stands at b is as it was -/
def SameB (b : Addr) (H H' : Hp) : Prop := ∀ a o, a ≠ b → H a = some o → H' a = some o
theorem SameB.refl (b : Addr) (H : Hp) : SameB b H H := fun _ _ _ h => h
theorem SameB.trans {b : Addr} {H H1 H2 : Hp} (x : SameB b H H1) (y : SameB b H1 H2) : SameB b H H2 := fun a o n h => y a o n (x a o n h)
theorem SameB.same {b : Addr} {H H1 H2 : Hp} (x : SameB b H H1) (y : Same H1 H2) : SameB b H H2 := fun a o n h => y a o (x a o n h)
theorem same_new {H : Hp} {p : Addr} {o : HO} (h : H p = none) : Same H (upd H p o) := fun a u e => by rw [upd_ne (ne_of_none e h)]; exact e
theorem SameB.new {b n : Addr} {H H1 : Hp} {o : HO} (x : SameB b H H1) (h : H1 n = none) : SameB b H (upd H1 n o) := x.same (same_new h)
theorem SameB.mut {b n : Addr} {H H1 : Hp} {o : HO} (x : SameB b H H1) (h : H n = none) : SameB b H (upd H1 n o) := fun a u h1 h2 => by
  rw [upd_ne (ne_of_none h2 h)]
  exact x a u h1 h2
theorem SameB.free {b l : Addr} {H H1 : Hp} (x : SameB b H H1) (n : l ≠ b) (h : H1 l = none) : H l = none := by
  cases q : H l with
  | none => rfl
  | some o =>
    rw [x l o n q] at h
    cases h
theorem sqT_of {K : PySem.W.Frag} {H : Hp} {a : Addr} {xs : List V} (h : H a = some (.tup xs)) : SqT K H a xs := Or.inl (Or.inl h)
theorem sqL_of {K : PySem.W.Frag} {H : Hp} {a : Addr} {xs : List V} (h : H a = some (.lst xs)) : SqL K H a xs := Or.inl (Or.inl h)
theorem Same.seqT {K : PySem.W.Frag} {H H' : Hp} {a : Addr} {xs : List V} (e : Same H H') (h : SqT K H a xs) : SqT K H' a xs := by
  rcases h with (h | ⟨o, h⟩) | h
  · exact .inl (.inl (e _ _ h))
  · exact .inl (.inr ⟨o, e _ _ h⟩)
  · exact .inr h
/-! ### built-in names that the module does not hide -/
structure Blt (mg : Str → Option Value) : Prop where
  b_len : mg "len" = none
  b_abs : mg "abs" = none
  b_int : mg "int" = none
  b_bool : mg "bool" = none
  b_str : mg "str" = none
  b_tuple : mg "tuple" = none
  b_list : mg "list" = none
  b_dict : mg "dict" = none
  b_set : mg "set" = none
  b_range : mg "range" = none
  b_zip : mg "zip" = none
  b_enumerate : mg "enumerate" = none
  b_all : mg "all" = none
  b_any : mg "any" = none
  b_sum : mg "sum" = none
  b_min : mg "min" = none
  b_max : mg "max" = none
  b_sorted : mg "sorted" = none
  b_repr : mg "repr" = none
  b_isinstance : mg "isinstance" = none
/-! ### the box of drawn numbers -/
def boxTop : Int := 10 ^ 240
def seedTop : Int := 2305843009213693951
structure BoxAt (H : Hp) (b : Addr) (N : Nat) : Prop where
  ex : ∃ o s n : Int, H b = some (.lst [.int o, .int s, .int n]) ∧ 0 ≤ o ∧ o < boxTop ∧ 0 ≤ s ∧ s < seedTop ∧ 0 ≤ n ∧ n ≤ (N : Int)
theorem BoxAt.mono {H : Hp} {b : Addr} {N M : Nat} (x : BoxAt H b N) (h : N ≤ M) : BoxAt H b M := by
  obtain ⟨o, s, n, h1, h2, h3, h4, h5, h6, h7⟩ := x.ex
  exact ⟨o, s, n, h1, h2, h3, h4, h5, h6, by omega⟩
theorem BoxAt.same {H H' : Hp} {b : Addr} {N : Nat} (x : BoxAt H b N) (s : Same H H') : BoxAt H' b N := by
  obtain ⟨o, r, n, h1, h⟩ := x.ex
  exact ⟨o, r, n, s _ _ h1, h⟩
end Ov
set_option maxHeartbeats 4000000
namespace Ov
open PySem PySem.Spec PyProof.Rows L2 RZ
/-! ### tuples, any slice and sum alike -/
/-! ### walks -/
/-! ### comprehensions that only add to the heap -/
end Ov
set_option linter.all false
namespace Ov
/-! ### sums of lengths and the table of least sums -/
inductive Sums (ls : List Nat) : Nat → Prop
  | zero : Sums ls 0
  | add {t a : Nat} : Sums ls t → a ∈ ls → Sums ls (t + a)
theorem Sums.mono {ls ms : List Nat} (h : ∀ a ∈ ls, a ∈ ms) {t : Nat} (s : Sums ls t) : Sums ms t := by
  induction s with
  | zero => exact .zero
  | add _ hm ih => exact .add ih (h _ hm)
theorem Sums.mul {ls : List Nat} {a : Nat} (ha : a ∈ ls) {t : Nat} (s : Sums ls t) : ∀ k : Nat, Sums ls (t + k * a)
  | 0 => by simpa using s
  | k + 1 => by
    have := Sums.add (Sums.mul ha s k) ha
    rwa [Nat.add_assoc, ← Nat.succ_mul] at this
theorem sums_more {ls : List Nat} {L t : Nat} : Sums (ls ++ [L]) t ↔ ∃ s k, Sums ls s ∧ t = s + k * L := by
  constructor
  · intro h
    induction h with
    | zero => exact ⟨0, 0, .zero, by simp⟩
    | add _ hm ih =>
      obtain ⟨s, k, h1, rfl⟩ := ih
      rcases List.mem_append.mp hm with h2 | h2
      · exact ⟨_, k, .add h1 h2, by omega⟩
      · have := List.mem_singleton.mp h2
        subst this
        exact ⟨s, k + 1, h1, by rw [Nat.succ_mul]; omega⟩
  · rintro ⟨s, k, h1, rfl⟩
    exact Sums.mul (by simp) (h1.mono (by simp +contextual)) k
def EntOk (S : Nat → Prop) (m r : Nat) : Option Nat → Prop
  | none => ∀ s, S s → s % m ≠ r
  | some t => S t ∧ t % m = r ∧ ∀ s, S s → s % m = r → t ≤ s
structure AOk (S : Nat → Prop) (ls : List Nat) (lv av : List (Option Nat)) : Prop where
  len : av.length = lv.length
  som : ∀ r L : Nat, av[r]? = some (some L) → ∃ t, lv[r]? = some (some t) ∧ L ∈ ls ∧ L ≤ t ∧ S (t - L)
  has : ∀ r t : Nat, r ≠ 0 → lv[r]? = some (some t) → ∃ L, av[r]? = some (some L)
theorem AOk.mono {S S' : Nat → Prop} {ls ms : List Nat} {lv av : List (Option Nat)} (h : AOk S ls lv av) (hs : ∀ s, S s → S' s) (hl : ∀ a ∈ ls, a ∈ ms) : AOk S' ms lv av :=
  ⟨h.len, fun r L e => let ⟨t, h1, h2, h3, h4⟩ := h.som r L e; ⟨t, h1, hl _ h2, h3, hs _ h4⟩, h.has⟩
theorem AOk.set {S : Nat → Prop} {ls : List Nat} {lv av : List (Option Nat)} (h : AOk S ls lv av) {r t L : Nat} (hr : r < lv.length) (hL : L ∈ ls) (ht : L ≤ t) (hS : S (t - L)) :
    AOk S ls (lv.set r (some t)) (av.set r (some L)) := by
  refine ⟨by simp [h.len], ?_, ?_⟩
  · intro q M e
    rw [List.getElem?_set] at e
    rw [List.getElem?_set]
    by_cases hq : r = q
    · rw [if_pos hq] at e
      rw [if_pos hq, if_pos hr]
      rw [if_pos (by rw [h.len]; exact hr)] at e
      cases e
      exact ⟨t, rfl, hL, ht, hS⟩
    · rw [if_neg hq] at e
      rw [if_neg hq]
      exact h.som q M e
  · intro q u hq e
    rw [List.getElem?_set] at e
    rw [List.getElem?_set]
    by_cases hq : r = q
    · rw [if_pos hq, if_pos (by rw [h.len]; exact hr)]
      exact ⟨L, rfl⟩
    · rw [if_neg hq] at e
      rw [if_neg hq]
      exact h.has q u (by assumption) e
structure TabOk (ls : List Nat) (m : Nat) (lv av : List (Option Nat)) : Prop where
  len : lv.length = m
  ent : ∀ r, r < m → ∃ e, lv[r]? = some e ∧ EntOk (Sums ls) m r e
  add : AOk (Sums ls) ls lv av
/-! ### residues along a length -/
theorem bez (a b : Nat) : ∃ x y : Int, ((Nat.gcd a b : Nat) : Int) = (a : Int) * x + (b : Int) * y := by
  induction a, b using Nat.gcd.induction with
  | H0 n => exact ⟨0, 1, by simp⟩
  | H1 m n hm ih =>
    obtain ⟨x, y, e⟩ := ih
    refine ⟨y - (n / m : Nat) * x, x, ?_⟩
    rw [Nat.gcd_rec, e]
    have h : (n : Int) = (m : Int) * ((n / m : Nat) : Int) + ((n % m : Nat) : Int) := by exact_mod_cast (Nat.div_add_mod n m).symm
    generalize ((n / m : Nat) : Int) = q at *
    generalize ((n % m : Nat) : Int) = r at *
    rw [h, Int.mul_sub, Int.add_mul, Int.mul_assoc]
    omega
/-! ### going round -/
/-! ### a table answers -/
theorem tab_has {ls : List Nat} {m t : Nat} {lv av : List (Option Nat)} (T : TabOk ls m lv av) (hm : m ∈ ls) (h0 : 0 < m) :
    Sums ls t ↔ ∃ u, lv[t % m]? = some (some u) ∧ u ≤ t := by
  obtain ⟨e, e1, e2⟩ := T.ent (t % m) (Nat.mod_lt _ h0)
  constructor
  · intro h
    cases e with
    | none => exact absurd rfl (e2 t h)
    | some u => exact ⟨u, e1, e2.2.2 t h rfl⟩
  · rintro ⟨u, h1, h2⟩
    rw [h1] at e1
    cases e1
    have : t = u + (t - u) / m * m := by
      have hd : m ∣ t - u := Nat.dvd_of_mod_eq_zero (Nat.sub_mod_eq_zero_of_mod_eq e2.2.1.symm)
      rw [Nat.div_mul_cancel hd]
      omega
    rw [this]
    exact Sums.mul hm e2.1 _
end Ov
set_option linter.all false
namespace Ov
/-! ### divisors -/
def gcdL (ls : List Nat) : Nat := ls.foldl Nat.gcd 0
theorem gcd_fold_dvd : ∀ (ls : List Nat) (a : Nat), ls.foldl Nat.gcd a ∣ a ∧ ∀ x ∈ ls, ls.foldl Nat.gcd a ∣ x
  | [], a => ⟨Nat.dvd_refl a, fun x h => absurd h List.not_mem_nil⟩
  | y :: ls, a => by
    have ih := gcd_fold_dvd ls (Nat.gcd a y)
    refine ⟨Nat.dvd_trans ih.1 (Nat.gcd_dvd_left a y), ?_⟩
    intro x hx
    rcases List.mem_cons.mp hx with rfl | hx
    · exact Nat.dvd_trans ih.1 (Nat.gcd_dvd_right a x)
    · exact ih.2 x hx
theorem dvd_gcd_fold : ∀ (ls : List Nat) (a d : Nat), d ∣ a → (∀ x ∈ ls, d ∣ x) → d ∣ ls.foldl Nat.gcd a
  | [], a, d, h, _ => h
  | y :: ls, a, d, h, h2 => dvd_gcd_fold ls _ d (Nat.dvd_gcd h (h2 y (List.mem_cons_self ..))) fun x hx => h2 x (List.mem_cons_of_mem _ hx)
theorem gcdL_dvd {ls : List Nat} {x : Nat} (h : x ∈ ls) : gcdL ls ∣ x := (gcd_fold_dvd ls 0).2 x h
theorem dvd_gcdL {ls : List Nat} {d : Nat} (h : ∀ x ∈ ls, d ∣ x) : d ∣ gcdL ls := dvd_gcd_fold ls 0 d (Nat.dvd_zero d) h
/-! ### a least sum is below m times the greatest length -/
/-! ### finding least sums by going up -/
end Ov
set_option maxHeartbeats 4000000
namespace Ov
open PySem PySem.Spec PyProof.Rows L2 RZ
/-! ### isinstance with a built-in class -/
inductive Kd | non | bl | int | str | lst | tup | dic
instance : Plain Kd := ⟨trivial⟩
def Kd.ty : Kd → String
  | .non => "NoneType" | .bl => "bool" | .int => "int" | .str => "str" | .lst => "list" | .tup => "tuple" | .dic => "dict"
def Kd.isInt : Kd → Bool | .int => true | .bl => true | _ => false
def Kd.isBool : Kd → Bool | .bl => true | _ => false
def Kd.isStr : Kd → Bool | .str => true | _ => false
def Kd.isTuple : Kd → Bool | .tup => true | _ => false
def Kd.isList : Kd → Bool | .lst => true | _ => false
def Kd.isDict : Kd → Bool | .dic => true | _ => false
inductive HasKd (K : PySem.W.Frag) (H : Hp) : V → Kd → Prop
  | non : HasKd K H .non .non
  | bl (b : Bool) : HasKd K H (.bl b) .bl
  | int (i : Int) : HasKd K H (.int i) .int
  | str (x : Str) : HasKd K H (.str x) .str
  | lst {a : Addr} {xs : List V} (h : SqL K H a xs) : HasKd K H (.ref a) .lst
  | tup {a : Addr} {xs : List V} (h : SqT K H a xs) : HasKd K H (.ref a) .tup
  | dic {a : Addr} {kvs : List (Key × V)} (h : H a = some (.dK kvs)) : HasKd K H (.ref a) .dic
theorem HasKd.same {K : PySem.W.Frag} {H H' : Hp} {v : V} {k : Kd} (s : Same H H') (h : HasKd K H v k) : HasKd K H' v k := by
  cases h with
  | non => exact .non
  | bl b => exact .bl b
  | int i => exact .int i
  | str x => exact .str x
  | lst h => exact .lst (s.seq h)
  | tup h => exact .tup (Same.seqT s h)
  | dic h => exact .dic (s _ _ h)
/-! ### what the small defs promise -/
def oV : Option Nat → V
  | none => .non
  | some n => .int (n : Int)
/-! ### SumTable -/
structure TabFs (m : Nat) (l a : Addr) (fs : List (Str × V)) : Prop where
  fM : fs.lookup ("modulus" : Str) = some (.int (m : Int))
  fL : fs.lookup ("least" : Str) = some (.ref l)
  fA : fs.lookup ("added" : Str) = some (.ref a)
  n1 : fs.lookup ("add_length" : Str) = none
  n2 : fs.lookup ("go_round" : Str) = none
  n3 : fs.lookup ("has" : Str) = none
/-- a table at p, its lists at l and a -/
structure TabAt (C : Addr) (H : Hp) (p l a : Addr) (m : Nat) (lv av : List (Option Nat)) : Prop where
  ob : ∃ dx fs, H p = some (.ins C dx fs) ∧ TabFs m l a fs
  hl : H l = some (.lst (lv.map oV))
  ha : H a = some (.lst (av.map oV))
  ne : l ≠ a
theorem TabAt.same {C : Addr} {H H' : Hp} {p l a : Addr} {m : Nat} {lv av : List (Option Nat)} (t : TabAt C H p l a m lv av) (s : Same H H') : TabAt C H' p l a m lv av := by
  obtain ⟨⟨dx, fs, h1, h2⟩, h3, h4, h5⟩ := t
  exact ⟨⟨dx, fs, s _ _ h1, h2⟩, s _ _ h3, s _ _ h4, h5⟩
/-- what stands elsewhere is kept -/
def Same2 (l a : Addr) (H H' : Hp) : Prop := ∀ b o, b ≠ l → b ≠ a → H b = some o → H' b = some o
end Ov
set_option maxHeartbeats 4000000
namespace Ov
open PySem PySem.Spec PyProof.Rows L2 RZ
/-! ### the rules with the written part named (a comprehension's block has the same) -/
section
variable {X : Cx}
theorem k_eqD (K : PySem.W.Frag) (hu : X.A.units + 64 < cLine) (h : X.K = K := by rfl) : OpR X (compareOp .Eq) (rEqD K) := h ▸ op_eqD hu
theorem k_neD (K : PySem.W.Frag) (hu : X.A.units + 64 < cLine) (h : X.K = K := by rfl) : OpR X (compareOp .NotEq) (rNeD K) := h ▸ op_neD hu
def rLenS (K : PySem.W.Frag) : List V → Hp → VK → Prop := fun xs H Q => ∃ p ys, xs = [.ref p] ∧ (SqL K H p ys ∨ SqT K H p ys) ∧ Q (.int (ys.length : Int)) H
theorem k_repr (K : PySem.W.Frag) (hg : X.A.guards = some []) (hu : X.A.units + 64 < cLine) (h : X.K = K := by rfl) : CallR X (.builtin "repr") (fun xs H Q =>
    ∃ x d, xs = [x] ∧ Dp K H x d ∧ d.showable = true ∧ d.depth ≤ 60 ∧ d.shown.length ≤ sizeLine ∧ Q (.str d.shown) H) := h ▸ call_reprD hg hu
variable {e o l : Expr} {ta tl tv : TE} {f : Str} {pos pos' : Pos} {tg : Expr}
variable {es : List Expr} {to : TE} {t : TA} {name : Str} {apos cpos : Pos} {T id : String} {r : V → List V → Hp → VK → Prop}
end
end Ov
set_option maxHeartbeats 4000000
namespace Ov
open PySem PySem.Spec PyProof.Rows L2 RZ
/-! ### data of small depth -/
mutual
def plainD : Nat → PyData → Bool
  | _, .none => true
  | _, .bool _ => true
  | _, .int _ => true
  | _, .str x => PyData.strOk x
  | 0, .list _ => false
  | 0, .tuple _ => false
  | n + 1, .list xs => plainA n xs
  | n + 1, .tuple xs => plainA n xs
  | _, .dict _ => false
def plainA : Nat → List PyData → Bool
  | _, [] => true
  | n, x :: xs => plainD n x && plainA n xs
end
mutual
theorem plain_lay : ∀ (d : PyData) (n : Nat), plainD n d = true → d.canLay0 = true ∧ d.depth ≤ n
  | .none, n, _ => ⟨rfl, Nat.zero_le n⟩
  | .bool _, n, _ => ⟨rfl, Nat.zero_le n⟩
  | .int _, n, _ => ⟨rfl, Nat.zero_le n⟩
  | .str x, n, h => ⟨by cases n <;> simpa [plainD, PyData.canLay0] using h, Nat.zero_le n⟩
  | .list xs, 0, h => by simp [plainD] at h
  | .tuple xs, 0, h => by simp [plainD] at h
  | .list xs, n + 1, h => by
    have := plain_layA xs n (by simpa [plainD] using h)
    exact ⟨by simpa [PyData.canLay0] using this.1, by simp only [PyData.depth]; omega⟩
  | .tuple xs, n + 1, h => by
    have := plain_layA xs n (by simpa [plainD] using h)
    exact ⟨by simpa [PyData.canLay0] using this.1, by simp only [PyData.depth]; omega⟩
  | .dict _, n, h => by cases n <;> simp [plainD] at h
theorem plain_layA : ∀ (ds : List PyData) (n : Nat), plainA n ds = true → PyData.canLayAll0 ds = true ∧ PyData.depthAll ds ≤ n
  | [], n, _ => ⟨rfl, Nat.zero_le n⟩
  | d :: ds, n, h => by
    simp only [plainA, Bool.and_eq_true] at h
    have h1 := plain_lay d n h.1
    have h2 := plain_layA ds n h.2
    exact ⟨by simp [PyData.canLayAll0, h1.1, h2.1], by simp only [PyData.depthAll]; omega⟩
end
theorem shaped_of {d : PyData} {n : Nat} (h : plainD n d = true) (hn : n ≤ 64) : SeqAt.shaped d = true := by
  have := plain_lay d n h
  simp only [SeqAt.shaped, Bool.and_eq_true, decide_eq_true_eq]
  exact ⟨this.1, by omega⟩
theorem plainA_map {α : Type} {f : α → PyData} {n : Nat} : ∀ {l : List α}, (∀ x ∈ l, plainD n (f x) = true) → plainA n (l.map f) = true
  | [], _ => by simp [plainA]
  | x :: l, h => by
    simp only [List.map_cons, plainA, Bool.and_eq_true]
    exact ⟨h x (List.mem_cons_self ..), plainA_map fun y hy => h y (List.mem_cons_of_mem _ hy)⟩
theorem plain_int {n : Nat} {i : Int} : plainD n (.int i) = true := by cases n <;> simp [plainD]
/-! ### which values read as which data -/
mutual
theorem Dp.same {K : PySem.W.Frag} {H H' : Hp} (s : Same H H') : ∀ (d : PyData) {v : V}, Dp K H v d → Dp K H' v d
  | .none, _, h => by cases h; exact .non
  | .bool b, _, h => by cases h; exact .bl b
  | .int i, _, h => by cases h; exact .int i
  | .str x, _, h => by cases h; exact .str x
  | .list ds, _, h => by cases h with | lst h1 h2 => exact .lst (s.seq h1) (DpAll.same s ds h2)
  | .tuple ds, _, h => by cases h with | tup h1 h2 => exact .tup (Same.seqT s h1) (DpAll.same s ds h2)
  | .dict _, _, h => by cases h
theorem DpAll.same {K : PySem.W.Frag} {H H' : Hp} (s : Same H H') : ∀ (ds : List PyData) {vs : List V}, DpAll K H vs ds → DpAll K H' vs ds
  | [], _, h => by cases h; exact .nil
  | d :: ds, _, h => by cases h with | cons h1 h2 => exact .cons (Dp.same s d h1) (DpAll.same s ds h2)
end
/-! ### SumTable: what its other defs promise -/
theorem Same2.refl (l a : Addr) (H : Hp) : Same2 l a H H := fun _ _ _ _ h => h
theorem Same2.trans {l a : Addr} {H H1 H2 : Hp} (x : Same2 l a H H1) (y : Same2 l a H1 H2) : Same2 l a H H2 := fun b o h1 h2 h => y b o h1 h2 (x b o h1 h2 h)
/-! ### the helpers of the laws -/
/-! ### repr of small things -/
end Ov
set_option maxHeartbeats 4000000
namespace Ov
open PySem PySem.Spec PyProof.Rows L2 RZ
/-! ### how long a repr is -/
mutual
def wt : PyData → Nat
  | .none => 1
  | .bool _ => 1
  | .int _ => 1
  | .str x => 1 + x.length
  | .list xs => 1 + wtA xs
  | .tuple xs => 1 + wtA xs
  | .dict _ => 0
def wtA : List PyData → Nat
  | [] => 0
  | x :: xs => wt x + wtA xs
end
theorem listText_le : ∀ ts : List Str, (listText ts).length ≤ 4 + piled ts
  | [] => by decide
  | t :: r => by
    have h := textFrom_length_pos r 1 (("[" : Str) ++ (if (0 : Nat) > 0 then ", " else "" : String) ++ t) (Nat.succ_pos 0)
    have e : ((("[" : Str) ++ (if (0 : Nat) > 0 then ", " else "" : String) ++ t)).length = 1 + t.length := by
      rw [strLen_append, strLen_append]
      rfl
    have h1 : (listText (t :: r)).length = (textFrom 1 (("[" : Str) ++ (if (0 : Nat) > 0 then ", " else "" : String) ++ t) r).length + 1 := by
      show (textFrom 0 "[" (t :: r) ++ "]").length = _
      rw [strLen_append]
      rfl
    rw [h1, h, e, piled_cons]
    omega
theorem tupleText_le (ts : List Str) : (tupleText ts).length ≤ 4 + piled ts := by
  have e : (tupleText ts).length = 1 + (Str.join ", " ts).length + (if ts.length == 1 then 2 else 1) := by
    unfold tupleText
    rw [strLen_append, strLen_append]
    congr 1
    split <;> rfl
  rw [e]
  cases ts with
  | nil => decide
  | cons t r =>
    have := join_length_add (t :: r) (List.cons_ne_nil _ _)
    split <;> omega
mutual
theorem shown_le : ∀ (d : PyData) (n : Nat), plainD n d = true → d.showable = true → d.shown.length + 2 ≤ 2002 * wt d
  | .none, n, _, _ => by decide
  | .bool b, n, _, _ => by cases b <;> decide
  | .int i, n, _, h => by
    have := int_text_len_1921 (i := i) (of_decide_eq_true h)
    show (Str.ofString (toString i)).length + 2 ≤ 2002 * 1
    omega
  | .str x, n, h, _ => by
    have hx : ∀ c ∈ x.cps.toList, c < 16 ^ 8 := by
      have : PyData.strOk x = true := by cases n <;> simpa [plainD] using h
      intro c hc
      have := Array.all_eq_true_iff_forall_mem.mp this c (by simpa using hc)
      have := of_decide_eq_true this
      omega
    have := PySem.StrLaws.reprText_len x hx
    show (reprText x).length + 2 ≤ 2002 * (1 + x.length)
    omega
  | .list xs, 0, h, _ => by simp [plainD] at h
  | .tuple xs, 0, h, _ => by simp [plainD] at h
  | .list xs, n + 1, h, hs => by
    have := shownA_le xs n (by simpa [plainD] using h) (by simpa [PyData.showable] using hs)
    have h2 := listText_le (PyData.shownAll xs)
    show (listText (PyData.shownAll xs)).length + 2 ≤ 2002 * (1 + wtA xs)
    omega
  | .tuple xs, n + 1, h, hs => by
    have := shownA_le xs n (by simpa [plainD] using h) (by simpa [PyData.showable] using hs)
    have h2 := tupleText_le (PyData.shownAll xs)
    show (tupleText (PyData.shownAll xs)).length + 2 ≤ 2002 * (1 + wtA xs)
    omega
  | .dict _, n, h, _ => by cases n <;> simp [plainD] at h
theorem shownA_le : ∀ (ds : List PyData) (n : Nat), plainA n ds = true → PyData.showableAll ds = true → piled (PyData.shownAll ds) ≤ 2002 * wtA ds
  | [], _, _, _ => by simp [PyData.shownAll, piled, wtA]
  | d :: ds, n, h, hs => by
    simp only [plainA, Bool.and_eq_true] at h
    simp only [PyData.showableAll, Bool.and_eq_true] at hs
    have h1 := shown_le d n h.1 hs.1
    have h2 := shownA_le ds n h.2 hs.2
    rw [PyData.shownAll, piled_cons, wtA, Nat.mul_add]
    omega
end
/-- a repr fits -/
theorem shows {d : PyData} {n : Nat} (h : plainD n d = true) (hn : n ≤ 60) (hs : d.showable = true) (hw : wt d ≤ 8000) : d.depth ≤ 60 ∧ d.shown.length ≤ sizeLine := by
  have h1 := plain_lay d n h
  have h2 := shown_le d n h hs
  refine ⟨by omega, Nat.le_trans (m := 2002 * 8000) (by omega) (by decide)⟩
theorem show_int {i : Int} (h : i.natAbs < 2 ^ 1000) : (PyData.int i).showable = true := by
  simp only [PyData.showable, decide_eq_true_eq]
  exact Nat.lt_of_lt_of_le (PySem.Flt.log2_lt_of (k := 1000) (by decide) h) (by decide)
/-! ### common_divisor, least_sums -/
end Ov
set_option maxHeartbeats 4000000
namespace Mi
open PySem PySem.Spec PyProof.Rows L2 RZ Ov
open LamX (CodeO Tabs TabS)
def nodeO : HO → Bool
  | .lst _ => true
  | .dK _ => true
  | .ins _ _ _ => true
  | _ => false
theorem node_tbl {o : HO} (h : nodeO o = true) (ps : Array Value) : o ≠ .tbl ps := fun z => by rw [z] at h; cases h
theorem node_code {o : HO} (h : nodeO o = true) (c : Addr) (q : Str) : o ≠ CodeO c q := fun z => by
  rw [z] at h
  unfold CodeO at h
  cases h
/-- an owned thing: no table, no code object, no error's dict -/
structure NodeO (a : Addr) (o : HO) : Prop where
  tb : ∀ ps, o ≠ .tbl ps
  cd : ∀ q, o ≠ CodeO a q
  xd : ∀ us, o ≠ .xd us
theorem node_of {a : Addr} {o : HO} (h : nodeO o = true) : NodeO a o := ⟨node_tbl h, fun q => node_code h a q, fun us z => by rw [z] at h; cases h⟩
theorem node_code_ne {a : Addr} {φ : Heap → Prop} (h : ∀ h : Heap, φ h → ∀ (o : Obj) (vs : Array Value), h.get? a = some o → o.data = .fields vs → False) : NodeO a (.ext φ) := by
  refine ⟨fun ps z => (by cases z), fun q z => ?_, fun us z => (by cases z)⟩
  have e : φ = fun h => ∃ (oc : Obj) (vs : Array Value) (t : Tok), h.get? a = some oc ∧ oc.data = .fields vs ∧ vs[1]? = some (.str q t) := by
    unfold CodeO at z
    injection z
  have key : ∀ n : Nat, ∃ g : Heap, g.objs.size = n := fun n => by
    induction n with
    | zero => exact ⟨{ objs := #[] }, rfl⟩
    | succ n ih =>
      obtain ⟨g, hg⟩ := ih
      exact ⟨g.push { cls := .none, data := .fields #[] }, by rw [Heap.size_push, hg]⟩
  obtain ⟨g, hg⟩ := key a
  have hget := Heap.get?_push_size g (o := { cls := .none, data := .fields #[.none, .str q 0] }) rfl
  rw [hg] at hget
  have c : φ (g.push { cls := .none, data := .fields #[.none, .str q 0] }) := by
    rw [e]
    exact ⟨_, _, 0, hget, rfl, rfl⟩
  exact h _ c _ _ hget rfl
/-- entries of a dict whose keys are nested tuples: key, its place, value -/
inductive GdX : List (NestedKey × Addr × V) → List (NestedKey × Addr × Value) → Prop
  | nil : GdX [] []
  | cons {q : NestedKey} {a : Addr} {v : V} {u : Value} {us : List (NestedKey × Addr × V)} {xs : List (NestedKey × Addr × Value)} : RelV v u → GdX us xs → GdX ((q, a, v) :: us) ((q, a, u) :: xs)
/-- at a: a dict whose keys are nested tuples -/
def GdO (P : Program) (w : World) (a : Addr) (us : List (NestedKey × Addr × V)) : HO := .ext fun h => ∃ (o : Obj) (es : Array DictEntry) (ep : Nat) (xs : List (NestedKey × Addr × Value)), h.get? a = some o ∧ o.ExactDict ∧ o.data = .dict es ep ∧ es.toList = xs.map (entryOfKey (nestedKind P w)) ∧ (us.map (·.1)).Nodup ∧ GdX us xs ∧ (a == sysModules) = false
theorem node_gd {P : Program} {w : World} {a : Addr} {us : List (NestedKey × Addr × V)} : NodeO a (GdO P w a us) := node_code_ne fun h ⟨o, es, ep, xs, ho, _, hd, _⟩ o' vs ho' hd' => by
  rw [ho] at ho'
  cases ho'
  rw [hd] at hd'
  cases hd'
/-! ### data by value; o: the node is owned by one place, and may be changed there -/
inductive D where
  | non
  | bl (b : Bool)
  | int (i : Int)
  | str (x : Str)
  | tup (xs : List D)
  | lst (o : Bool) (xs : List D)
  | dct (o : Bool) (kvs : List (D × D))
  | ins (o : Bool) (c : String) (fs : List (String × D))
  | set (xs : List D)
  | scr (xs : List D)
  /-- an exception of the class c that was caught -/
  | exn (c : String) (fs : List (String × D))
  /-- a lambda at f, its code object at a; what it caught -/
  | fnc (f a : Addr) (q : Str) (ds : List D) (vs : List V)
  /-- a dict whose keys are nested tuples -/
  | dcg (o : Bool) (kvs : List (D × D))
deriving Inhabited
mutual
/-- a value as a part of a key -/
def nkD : D → Option NestedKey
  | .non => some .none
  | .bl b => some (.num (if b = true then 1 else 0))
  | .int i => some (.num i)
  | .str x => some (.text x)
  | .tup ds => match nkL ds with | some ks => some (.tup ks) | none => none
  | .lst _ _ => none
  | .dct _ _ => none
  | .ins _ _ _ => none
  | .set _ => none
  | .scr _ => none
  | .exn _ _ => none
  | .fnc _ _ _ _ _ => none
  | .dcg _ _ => none
def nkL : List D → Option (List NestedKey)
  | [] => some []
  | d :: ds => match nkD d with | some k => (match nkL ds with | some ks => some (k :: ks) | none => none) | none => none
end
/-- a tuple as a key -/
def gkD : D → Option NestedKey
  | .tup ds => match nkL ds with | some ks => if (NestedKey.tup ks).depth ≤ 8 then some (.tup ks) else none | none => none
  | _ => none
structure Ct where
  K : PySem.W.Frag
  cls : String → Option Addr
  P : Program
  w : World
  T : List (Addr × Str)
def kD : Key → D
  | .inl i => .int i
  | .inr x => .str x
/-- at a: a dict with keys None and ints, of which only the keys count -/
def LfO (P : Program) (w : World) (a : Addr) (ls : List Leaf) : HO := .ext fun h => ∃ kvs : List (Leaf × Value), h.DictOf (leafKind P w) a kvs ∧ kvs.map (·.1) = ls ∧ (a == sysModules) = false
def lfD : Leaf → D
  | .none => .non
  | .num i => .int i
  | .text x => .str x
/-- a set, by its members in some order; a set of texts has a mark in front, a dict's keys another one -/
def SetD (C : Ct) (a : Addr) (ks : List D) (o : HO) : Prop :=
  (∃ xs : List Str, ks = .non :: xs.map D.str ∧ xs.Nodup ∧ o = SetK C.P C.w a (fun k => xs.any fun q => decide (k = Sum.inr q)) xs.length) ∨
  (∃ ns : List Int, ks = ns.map D.int ∧ ns.Nodup ∧ o = SetO C.w a (fun k => ns.any fun q => decide (k = q)) ns.length) ∨
  ∃ ls : List Leaf, ks = .bl true :: ls.map lfD ∧ o = LfO C.P C.w a ls
/-- at a: an exception that was caught, of the class at c, its dict -/
def ExK (a c : Addr) (d : Option Addr) : HO := .ext fun h => ∃ (o : Obj) (xs : Array Value), h.get? a = some o ∧ Zc (.ref c) d o ∧ o.data = .fields xs
/-- the fields that its dict has -/
def XdAt (Z : Hp) : Option Addr → List (Str × V) → Prop
  | some d, us => Z d = some (.xd us)
  | none, us => us = []
theorem XdAt.mono {Z Z' : Hp} (s : Same Z Z') : ∀ {d : Option Addr} {us : List (Str × V)}, XdAt Z d us → XdAt Z' d us
  | some _, _, h => s _ _ h
  | none, _, h => h
mutual
/-- v is d: frozen parts stand in Z, owned nodes in H; F the owned addresses -/
def RdV (C : Ct) (Z H : Hp) : D → V → List Addr → Prop
  | .non, v, F => v = .non ∧ F = []
  | .bl b, v, F => v = .bl b ∧ F = []
  | .int i, v, F => v = .int i ∧ F = []
  | .str x, v, F => v = .str x ∧ F = []
  | .tup ds, v, F => F = [] ∧ ∃ a vs, v = .ref a ∧ SqT C.K Z a vs ∧ RdL C Z H ds vs []
  | .lst o ds, v, F => match o with
    | false => F = [] ∧ ∃ a vs, v = .ref a ∧ Z a = some (.lst vs) ∧ RdL C Z H ds vs []
    | true => ∃ a vs G, v = .ref a ∧ H a = some (.lst vs) ∧ F = a :: G ∧ RdL C Z H ds vs G
  | .dct o kvs, v, F => match o with
    | false => F = [] ∧ ∃ a us, v = .ref a ∧ Z a = some (.dK us) ∧ RdK C Z H kvs us []
    | true => ∃ a us G, v = .ref a ∧ H a = some (.dK us) ∧ F = a :: G ∧ RdK C Z H kvs us G
  | .ins o c fs, v, F => match o with
    | false => F = [] ∧ ∃ a Ca dx us, v = .ref a ∧ C.cls c = some Ca ∧ Z a = some (.ins Ca dx us) ∧ RdF C Z H fs us []
    | true => ∃ a Ca dx us G, v = .ref a ∧ C.cls c = some Ca ∧ H a = some (.ins Ca dx us) ∧ F = a :: G ∧ RdF C Z H fs us G
  | .set ks, v, F => F = [] ∧ ∃ a o, v = .ref a ∧ Z a = some o ∧ SetD C a ks o
  | .scr ds, v, F => F = [] ∧ ∃ a vs, v = .ref a ∧ SqL C.K Z a vs ∧ RdL C Z H ds vs []
  | .exn c fs, v, F => F = [] ∧ ∃ a Ca d us, v = .ref a ∧ C.cls c = some Ca ∧ Z a = some (ExK a Ca d) ∧ XdAt Z d us ∧ RdF C Z H fs us []
  | .fnc f a q ds vs, v, F => F = [] ∧ v = .ref f ∧ Z a = some (CodeO a q) ∧ RdL C Z H ds vs []
  | .dcg o kvs, v, F => match o with
    | false => F = [] ∧ ∃ a us, v = .ref a ∧ Z a = some (GdO C.P C.w a us) ∧ RdG C Z H kvs us []
    | true => ∃ a us G, v = .ref a ∧ H a = some (GdO C.P C.w a us) ∧ F = a :: G ∧ RdG C Z H kvs us G
def RdL (C : Ct) (Z H : Hp) : List D → List V → List Addr → Prop
  | [], vs, F => vs = [] ∧ F = []
  | d :: ds, vs, F => ∃ v r F1 F2, vs = v :: r ∧ F = F1 ++ F2 ∧ RdV C Z H d v F1 ∧ RdL C Z H ds r F2
def RdK (C : Ct) (Z H : Hp) : List (D × D) → List (Key × V) → List Addr → Prop
  | [], us, F => us = [] ∧ F = []
  | (k, d) :: r, us, F => ∃ q v s F1 F2, us = (q, v) :: s ∧ F = F1 ++ F2 ∧ k = kD q ∧ RdV C Z H d v F1 ∧ RdK C Z H r s F2
def RdG (C : Ct) (Z H : Hp) : List (D × D) → List (NestedKey × Addr × V) → List Addr → Prop
  | [], us, F => us = [] ∧ F = []
  | (k, d) :: r, us, F => ∃ q ka v s F1 F2, us = (q, ka, v) :: s ∧ F = F1 ++ F2 ∧ gkD k = some q ∧ RdV C Z H k (.ref ka) [] ∧ RdV C Z H d v F1 ∧ RdG C Z H r s F2
def RdF (C : Ct) (Z H : Hp) : List (String × D) → List (Str × V) → List Addr → Prop
  | [], us, F => us = [] ∧ F = []
  | (k, d) :: r, us, F => ∃ v s F1 F2, us = (PySem.Str.ofString k, v) :: s ∧ F = F1 ++ F2 ∧ RdV C Z H d v F1 ∧ RdF C Z H r s F2
end
mutual
def fz : D → D
  | .non => .non
  | .bl b => .bl b
  | .int i => .int i
  | .str x => .str x
  | .tup ds => .tup (fzL ds)
  | .lst _ ds => .lst false (fzL ds)
  | .dct _ kvs => .dct false (fzK kvs)
  | .ins _ c fs => .ins false c (fzF fs)
  | .set xs => .set xs
  | .scr xs => .scr (fzL xs)
  | .exn c fs => .exn c (fzF fs)
  | .fnc f a q ds vs => .fnc f a q (fzL ds) vs
  | .dcg _ kvs => .dcg false (fzK kvs)
def fzL : List D → List D
  | [] => []
  | d :: ds => fz d :: fzL ds
def fzK : List (D × D) → List (D × D)
  | [] => []
  | (k, d) :: r => (k, fz d) :: fzK r
def fzF : List (String × D) → List (String × D)
  | [] => []
  | (k, d) :: r => (k, fz d) :: fzF r
end
mutual
/-- no owned node within -/
def fzn : D → Bool
  | .non => true
  | .bl _ => true
  | .int _ => true
  | .str _ => true
  | .tup ds => fznL ds
  | .lst o ds => !o && fznL ds
  | .dct o kvs => !o && fznK kvs
  | .ins o _ fs => !o && fznF fs
  | .set _ => true
  | .scr xs => fznL xs
  | .exn _ fs => fznF fs
  | .fnc _ _ _ ds _ => fznL ds
  | .dcg o kvs => !o && fznK kvs
def fznL : List D → Bool
  | [] => true
  | d :: ds => fzn d && fznL ds
def fznK : List (D × D) → Bool
  | [] => true
  | (_, d) :: r => fzn d && fznK r
def fznF : List (String × D) → Bool
  | [] => true
  | (_, d) :: r => fzn d && fznF r
end
section
variable {C : Ct} {Z Z' H H' : Hp}
mutual
theorem RdV.mono (sz : Same Z Z') : ∀ (d : D) (v : V) (F : List Addr), (∀ a ∈ F, H' a = H a) → RdV C Z H d v F → RdV C Z' H' d v F
  | .non, v, F, _, h => by simpa [RdV] using h
  | .bl _, v, F, _, h => by simpa [RdV] using h
  | .int _, v, F, _, h => by simpa [RdV] using h
  | .str _, v, F, _, h => by simpa [RdV] using h
  | .tup ds, v, F, e, h => by
    rw [RdV] at h ⊢
    obtain ⟨hF, a, vs, h1, h2, h3⟩ := h
    exact ⟨hF, a, vs, h1, Same.seqT sz h2, RdL.mono sz ds vs [] (fun a ha => by cases ha) h3⟩
  | .lst false ds, v, F, e, h => by
    rw [RdV] at h ⊢
    obtain ⟨hF, a, vs, h1, h2, h3⟩ := h
    exact ⟨hF, a, vs, h1, sz _ _ h2, RdL.mono sz ds vs [] (fun a ha => by cases ha) h3⟩
  | .lst true ds, v, F, e, h => by
    rw [RdV] at h ⊢
    obtain ⟨a, vs, G, h1, h2, h3, h4⟩ := h
    subst h3
    exact ⟨a, vs, G, h1, by rw [e a (List.mem_cons_self ..)]; exact h2, rfl, RdL.mono sz ds vs G (fun b hb => e b (List.mem_cons_of_mem _ hb)) h4⟩
  | .dct false kvs, v, F, e, h => by
    rw [RdV] at h ⊢
    obtain ⟨hF, a, vs, h1, h2, h3⟩ := h
    exact ⟨hF, a, vs, h1, sz _ _ h2, RdK.mono sz kvs vs [] (fun a ha => by cases ha) h3⟩
  | .dct true kvs, v, F, e, h => by
    rw [RdV] at h ⊢
    obtain ⟨a, vs, G, h1, h2, h3, h4⟩ := h
    subst h3
    exact ⟨a, vs, G, h1, by rw [e a (List.mem_cons_self ..)]; exact h2, rfl, RdK.mono sz kvs vs G (fun b hb => e b (List.mem_cons_of_mem _ hb)) h4⟩
  | .ins false c fs, v, F, e, h => by
    rw [RdV] at h ⊢
    obtain ⟨hF, a, Ca, dx, us, h1, h2, h3, h4⟩ := h
    exact ⟨hF, a, Ca, dx, us, h1, h2, sz _ _ h3, RdF.mono sz fs us [] (fun a ha => by cases ha) h4⟩
  | .ins true c fs, v, F, e, h => by
    rw [RdV] at h ⊢
    obtain ⟨a, Ca, dx, us, G, h1, h2, h3, h4, h5⟩ := h
    subst h4
    exact ⟨a, Ca, dx, us, G, h1, h2, by rw [e a (List.mem_cons_self ..)]; exact h3, rfl, RdF.mono sz fs us G (fun b hb => e b (List.mem_cons_of_mem _ hb)) h5⟩
  | .set ks, v, F, _, h => by
    rw [RdV] at h ⊢
    obtain ⟨hF, a, o, h1, h2, h3⟩ := h
    exact ⟨hF, a, o, h1, sz _ _ h2, h3⟩
  | .scr ds, v, F, e, h => by
    rw [RdV] at h ⊢
    obtain ⟨hF, a, vs, h1, h2, h3⟩ := h
    exact ⟨hF, a, vs, h1, sz.seq h2, RdL.mono sz ds vs [] (fun a ha => by cases ha) h3⟩
  | .exn c fs, v, F, e, h => by
    rw [RdV] at h ⊢
    obtain ⟨hF, a, Ca, d, us, h1, h2, h3, h4, h5⟩ := h
    exact ⟨hF, a, Ca, d, us, h1, h2, sz _ _ h3, h4.mono sz, RdF.mono sz fs us [] (fun a ha => by cases ha) h5⟩
  | .fnc f a q ds vs, v, F, e, h => by
    rw [RdV] at h ⊢
    exact ⟨h.1, h.2.1, sz _ _ h.2.2.1, RdL.mono sz ds vs [] (fun a ha => by cases ha) h.2.2.2⟩
  | .dcg false kvs, v, F, e, h => by
    rw [RdV] at h ⊢
    obtain ⟨hF, a, vs, h1, h2, h3⟩ := h
    exact ⟨hF, a, vs, h1, sz _ _ h2, RdG.mono sz kvs vs [] (fun a ha => by cases ha) h3⟩
  | .dcg true kvs, v, F, e, h => by
    rw [RdV] at h ⊢
    obtain ⟨a, vs, G, h1, h2, h3, h4⟩ := h
    subst h3
    exact ⟨a, vs, G, h1, by rw [e a (List.mem_cons_self ..)]; exact h2, rfl, RdG.mono sz kvs vs G (fun b hb => e b (List.mem_cons_of_mem _ hb)) h4⟩
theorem RdL.mono (sz : Same Z Z') : ∀ (ds : List D) (vs : List V) (F : List Addr), (∀ a ∈ F, H' a = H a) → RdL C Z H ds vs F → RdL C Z' H' ds vs F
  | [], vs, F, _, h => by simpa [RdL] using h
  | d :: ds, vs, F, e, h => by
    rw [RdL] at h ⊢
    obtain ⟨v, r, F1, F2, h1, h2, h3, h4⟩ := h
    subst h2
    exact ⟨v, r, F1, F2, h1, rfl, RdV.mono sz d v F1 (fun a ha => e a (List.mem_append_left _ ha)) h3, RdL.mono sz ds r F2 (fun a ha => e a (List.mem_append_right _ ha)) h4⟩
theorem RdK.mono (sz : Same Z Z') : ∀ (ds : List (D × D)) (vs : List (Key × V)) (F : List Addr), (∀ a ∈ F, H' a = H a) → RdK C Z H ds vs F → RdK C Z' H' ds vs F
  | [], vs, F, _, h => by simpa [RdK] using h
  | (k, d) :: ds, vs, F, e, h => by
    rw [RdK] at h ⊢
    obtain ⟨q, v, r, F1, F2, h1, h2, h3, h4, h5⟩ := h
    subst h2
    exact ⟨q, v, r, F1, F2, h1, rfl, h3, RdV.mono sz d v F1 (fun a ha => e a (List.mem_append_left _ ha)) h4, RdK.mono sz ds r F2 (fun a ha => e a (List.mem_append_right _ ha)) h5⟩
theorem RdG.mono (sz : Same Z Z') : ∀ (ds : List (D × D)) (vs : List (NestedKey × Addr × V)) (F : List Addr), (∀ a ∈ F, H' a = H a) → RdG C Z H ds vs F → RdG C Z' H' ds vs F
  | [], vs, F, _, h => by simpa [RdG] using h
  | (k, d) :: ds, vs, F, e, h => by
    rw [RdG] at h ⊢
    obtain ⟨q, ka, v, r, F1, F2, h1, h2, h3, h6, h4, h5⟩ := h
    subst h2
    exact ⟨q, ka, v, r, F1, F2, h1, rfl, h3, RdV.mono sz k (.ref ka) [] (fun a ha => by cases ha) h6, RdV.mono sz d v F1 (fun a ha => e a (List.mem_append_left _ ha)) h4, RdG.mono sz ds r F2 (fun a ha => e a (List.mem_append_right _ ha)) h5⟩
theorem RdF.mono (sz : Same Z Z') : ∀ (ds : List (String × D)) (vs : List (Str × V)) (F : List Addr), (∀ a ∈ F, H' a = H a) → RdF C Z H ds vs F → RdF C Z' H' ds vs F
  | [], vs, F, _, h => by simpa [RdF] using h
  | (k, d) :: ds, vs, F, e, h => by
    rw [RdF] at h ⊢
    obtain ⟨v, r, F1, F2, h1, h2, h4, h5⟩ := h
    subst h2
    exact ⟨v, r, F1, F2, h1, rfl, RdV.mono sz d v F1 (fun a ha => e a (List.mem_append_left _ ha)) h4, RdF.mono sz ds r F2 (fun a ha => e a (List.mem_append_right _ ha)) h5⟩
end
mutual
theorem RdV.live : ∀ (d : D) (v : V) (F : List Addr), RdV C Z H d v F → ∀ a ∈ F, H a ≠ none
  | .non, v, F, h => by rw [RdV] at h; rw [h.2]; intro a ha; cases ha
  | .bl _, v, F, h => by rw [RdV] at h; rw [h.2]; intro a ha; cases ha
  | .int _, v, F, h => by rw [RdV] at h; rw [h.2]; intro a ha; cases ha
  | .str _, v, F, h => by rw [RdV] at h; rw [h.2]; intro a ha; cases ha
  | .tup ds, v, F, h => by rw [RdV] at h; rw [h.1]; intro a ha; cases ha
  | .lst false ds, v, F, h => by rw [RdV] at h; rw [h.1]; intro a ha; cases ha
  | .dct false ds, v, F, h => by rw [RdV] at h; rw [h.1]; intro a ha; cases ha
  | .ins false c ds, v, F, h => by rw [RdV] at h; rw [h.1]; intro a ha; cases ha
  | .lst true ds, v, F, h => by
    rw [RdV] at h
    obtain ⟨a, vs, G, h1, h2, h3, h4⟩ := h
    subst h3
    intro b hb
    rcases List.mem_cons.mp hb with rfl | hb
    · rw [h2]; simp
    · exact RdL.live ds vs G h4 b hb
  | .dct true ds, v, F, h => by
    rw [RdV] at h
    obtain ⟨a, vs, G, h1, h2, h3, h4⟩ := h
    subst h3
    intro b hb
    rcases List.mem_cons.mp hb with rfl | hb
    · rw [h2]; simp
    · exact RdK.live ds vs G h4 b hb
  | .ins true c ds, v, F, h => by
    rw [RdV] at h
    obtain ⟨a, Ca, dx, vs, G, h1, h2, h3, h4, h5⟩ := h
    subst h4
    intro b hb
    rcases List.mem_cons.mp hb with rfl | hb
    · rw [h3]; simp
    · exact RdF.live ds vs G h5 b hb
  | .set ds, v, F, h => by rw [RdV] at h; rw [h.1]; intro a ha; cases ha
  | .scr ds, v, F, h => by rw [RdV] at h; rw [h.1]; intro a ha; cases ha
  | .exn c fs, v, F, h => by rw [RdV] at h; rw [h.1]; intro a ha; cases ha
  | .fnc f a q ds vs, v, F, h => by rw [RdV] at h; rw [h.1]; intro a ha; cases ha
  | .dcg false ds, v, F, h => by rw [RdV] at h; rw [h.1]; intro a ha; cases ha
  | .dcg true ds, v, F, h => by
    rw [RdV] at h
    obtain ⟨a, vs, G, h1, h2, h3, h4⟩ := h
    subst h3
    intro b hb
    rcases List.mem_cons.mp hb with rfl | hb
    · rw [h2]; simp
    · exact RdG.live ds vs G h4 b hb
theorem RdL.live : ∀ (ds : List D) (vs : List V) (F : List Addr), RdL C Z H ds vs F → ∀ a ∈ F, H a ≠ none
  | [], vs, F, h => by rw [RdL] at h; rw [h.2]; intro a ha; cases ha
  | d :: ds, vs, F, h => by
    rw [RdL] at h
    obtain ⟨v, r, F1, F2, h1, h2, h3, h4⟩ := h
    subst h2
    intro a ha
    rcases List.mem_append.mp ha with ha | ha
    · exact RdV.live d v F1 h3 a ha
    · exact RdL.live ds r F2 h4 a ha
theorem RdK.live : ∀ (ds : List (D × D)) (vs : List (Key × V)) (F : List Addr), RdK C Z H ds vs F → ∀ a ∈ F, H a ≠ none
  | [], vs, F, h => by rw [RdK] at h; rw [h.2]; intro a ha; cases ha
  | (k, d) :: ds, vs, F, h => by
    rw [RdK] at h
    obtain ⟨q, v, r, F1, F2, h1, h2, h3, h4, h5⟩ := h
    subst h2
    intro a ha
    rcases List.mem_append.mp ha with ha | ha
    · exact RdV.live d v F1 h4 a ha
    · exact RdK.live ds r F2 h5 a ha
theorem RdG.live : ∀ (ds : List (D × D)) (vs : List (NestedKey × Addr × V)) (F : List Addr), RdG C Z H ds vs F → ∀ a ∈ F, H a ≠ none
  | [], vs, F, h => by rw [RdG] at h; rw [h.2]; intro a ha; cases ha
  | (k, d) :: ds, vs, F, h => by
    rw [RdG] at h
    obtain ⟨q, ka, v, r, F1, F2, h1, h2, h3, h6, h4, h5⟩ := h
    subst h2
    intro a ha
    rcases List.mem_append.mp ha with ha | ha
    · exact RdV.live d v F1 h4 a ha
    · exact RdG.live ds r F2 h5 a ha
theorem RdF.live : ∀ (ds : List (String × D)) (vs : List (Str × V)) (F : List Addr), RdF C Z H ds vs F → ∀ a ∈ F, H a ≠ none
  | [], vs, F, h => by rw [RdF] at h; rw [h.2]; intro a ha; cases ha
  | (k, d) :: ds, vs, F, h => by
    rw [RdF] at h
    obtain ⟨v, r, F1, F2, h1, h2, h4, h5⟩ := h
    subst h2
    intro a ha
    rcases List.mem_append.mp ha with ha | ha
    · exact RdV.live d v F1 h4 a ha
    · exact RdF.live ds r F2 h5 a ha
end
mutual
theorem RdV.nk : ∀ (d : D) (v : V) (F : List Addr), RdV C Z H d v F → ∀ a ∈ F, ∃ o, H a = some o ∧ NodeO a o
  | .non, v, F, h => by rw [RdV] at h; rw [h.2]; intro a ha; cases ha
  | .bl _, v, F, h => by rw [RdV] at h; rw [h.2]; intro a ha; cases ha
  | .int _, v, F, h => by rw [RdV] at h; rw [h.2]; intro a ha; cases ha
  | .str _, v, F, h => by rw [RdV] at h; rw [h.2]; intro a ha; cases ha
  | .tup ds, v, F, h => by rw [RdV] at h; rw [h.1]; intro a ha; cases ha
  | .lst false ds, v, F, h => by rw [RdV] at h; rw [h.1]; intro a ha; cases ha
  | .dct false ds, v, F, h => by rw [RdV] at h; rw [h.1]; intro a ha; cases ha
  | .ins false c ds, v, F, h => by rw [RdV] at h; rw [h.1]; intro a ha; cases ha
  | .lst true ds, v, F, h => by
    rw [RdV] at h
    obtain ⟨a, vs, G, h1, h2, h3, h4⟩ := h
    subst h3
    intro b hb
    rcases List.mem_cons.mp hb with rfl | hb
    · exact ⟨_, h2, node_of rfl⟩
    · exact RdL.nk ds vs G h4 b hb
  | .dct true ds, v, F, h => by
    rw [RdV] at h
    obtain ⟨a, vs, G, h1, h2, h3, h4⟩ := h
    subst h3
    intro b hb
    rcases List.mem_cons.mp hb with rfl | hb
    · exact ⟨_, h2, node_of rfl⟩
    · exact RdK.nk ds vs G h4 b hb
  | .ins true c ds, v, F, h => by
    rw [RdV] at h
    obtain ⟨a, Ca, dx, vs, G, h1, h2, h3, h4, h5⟩ := h
    subst h4
    intro b hb
    rcases List.mem_cons.mp hb with rfl | hb
    · exact ⟨_, h3, node_of rfl⟩
    · exact RdF.nk ds vs G h5 b hb
  | .set ds, v, F, h => by rw [RdV] at h; rw [h.1]; intro a ha; cases ha
  | .scr ds, v, F, h => by rw [RdV] at h; rw [h.1]; intro a ha; cases ha
  | .exn c fs, v, F, h => by rw [RdV] at h; rw [h.1]; intro a ha; cases ha
  | .fnc f a q ds vs, v, F, h => by rw [RdV] at h; rw [h.1]; intro a ha; cases ha
  | .dcg false ds, v, F, h => by rw [RdV] at h; rw [h.1]; intro a ha; cases ha
  | .dcg true ds, v, F, h => by
    rw [RdV] at h
    obtain ⟨a, vs, G, h1, h2, h3, h4⟩ := h
    subst h3
    intro b hb
    rcases List.mem_cons.mp hb with rfl | hb
    · exact ⟨_, h2, node_gd⟩
    · exact RdG.nk ds vs G h4 b hb
theorem RdL.nk : ∀ (ds : List D) (vs : List V) (F : List Addr), RdL C Z H ds vs F → ∀ a ∈ F, ∃ o, H a = some o ∧ NodeO a o
  | [], vs, F, h => by rw [RdL] at h; rw [h.2]; intro a ha; cases ha
  | d :: ds, vs, F, h => by
    rw [RdL] at h
    obtain ⟨v, r, F1, F2, h1, h2, h3, h4⟩ := h
    subst h2
    intro a ha
    rcases List.mem_append.mp ha with ha | ha
    · exact RdV.nk d v F1 h3 a ha
    · exact RdL.nk ds r F2 h4 a ha
theorem RdK.nk : ∀ (ds : List (D × D)) (vs : List (Key × V)) (F : List Addr), RdK C Z H ds vs F → ∀ a ∈ F, ∃ o, H a = some o ∧ NodeO a o
  | [], vs, F, h => by rw [RdK] at h; rw [h.2]; intro a ha; cases ha
  | (k, d) :: ds, vs, F, h => by
    rw [RdK] at h
    obtain ⟨q, v, r, F1, F2, h1, h2, h3, h4, h5⟩ := h
    subst h2
    intro a ha
    rcases List.mem_append.mp ha with ha | ha
    · exact RdV.nk d v F1 h4 a ha
    · exact RdK.nk ds r F2 h5 a ha
theorem RdG.nk : ∀ (ds : List (D × D)) (vs : List (NestedKey × Addr × V)) (F : List Addr), RdG C Z H ds vs F → ∀ a ∈ F, ∃ o, H a = some o ∧ NodeO a o
  | [], vs, F, h => by rw [RdG] at h; rw [h.2]; intro a ha; cases ha
  | (k, d) :: ds, vs, F, h => by
    rw [RdG] at h
    obtain ⟨q, ka, v, r, F1, F2, h1, h2, h3, h6, h4, h5⟩ := h
    subst h2
    intro a ha
    rcases List.mem_append.mp ha with ha | ha
    · exact RdV.nk d v F1 h4 a ha
    · exact RdG.nk ds r F2 h5 a ha
theorem RdF.nk : ∀ (ds : List (String × D)) (vs : List (Str × V)) (F : List Addr), RdF C Z H ds vs F → ∀ a ∈ F, ∃ o, H a = some o ∧ NodeO a o
  | [], vs, F, h => by rw [RdF] at h; rw [h.2]; intro a ha; cases ha
  | (k, d) :: ds, vs, F, h => by
    rw [RdF] at h
    obtain ⟨v, r, F1, F2, h1, h2, h4, h5⟩ := h
    subst h2
    intro a ha
    rcases List.mem_append.mp ha with ha | ha
    · exact RdV.nk d v F1 h4 a ha
    · exact RdF.nk ds r F2 h5 a ha
end
/-- Z with what H holds at W -/
def Zw (Z H : Hp) (W : List Addr) : Hp := fun a => if a ∈ W then H a else Z a
theorem Zw.same {W : List Addr} (h : ∀ a ∈ W, Z a = none) : Same Z (Zw Z H W) := fun a o e => by
  unfold Zw
  by_cases hw : a ∈ W
  · rw [h a hw] at e; cases e
  · rw [if_neg hw]; exact e
theorem Zw.at {W : List Addr} {a : Addr} (h : a ∈ W) : Zw Z H W a = H a := if_pos h
mutual
theorem RdV.freeze {W : List Addr} (hz : ∀ a ∈ W, Z a = none) : ∀ (d : D) (v : V) (F : List Addr), (∀ a ∈ F, a ∈ W) → RdV C Z H d v F → RdV C (Zw Z H W) H' (fz d) v []
  | .non, v, F, _, h => by simpa [RdV, fz] using h.1
  | .bl _, v, F, _, h => by simpa [RdV, fz] using h.1
  | .int _, v, F, _, h => by simpa [RdV, fz] using h.1
  | .str _, v, F, _, h => by simpa [RdV, fz] using h.1
  | .tup ds, v, F, e, h => by
    rw [RdV] at h
    rw [fz, RdV]
    obtain ⟨hF, a, vs, h1, h2, h3⟩ := h
    exact ⟨rfl, a, vs, h1, Same.seqT (Zw.same hz) h2, RdL.freeze hz ds vs [] (fun a ha => by cases ha) h3⟩
  | .lst false ds, v, F, e, h => by
    rw [RdV] at h
    rw [fz, RdV]
    obtain ⟨hF, a, vs, h1, h2, h3⟩ := h
    exact ⟨rfl, a, vs, h1, (Zw.same hz) _ _ h2, RdL.freeze hz ds vs [] (fun a ha => by cases ha) h3⟩
  | .lst true ds, v, F, e, h => by
    rw [RdV] at h
    rw [fz, RdV]
    obtain ⟨a, vs, G, h1, h2, h3, h4⟩ := h
    subst h3
    exact ⟨rfl, a, vs, h1, by rw [Zw.at (e a (List.mem_cons_self ..))]; exact h2, RdL.freeze hz ds vs G (fun b hb => e b (List.mem_cons_of_mem _ hb)) h4⟩
  | .dct false kvs, v, F, e, h => by
    rw [RdV] at h
    rw [fz, RdV]
    obtain ⟨hF, a, vs, h1, h2, h3⟩ := h
    exact ⟨rfl, a, vs, h1, (Zw.same hz) _ _ h2, RdK.freeze hz kvs vs [] (fun a ha => by cases ha) h3⟩
  | .dct true kvs, v, F, e, h => by
    rw [RdV] at h
    rw [fz, RdV]
    obtain ⟨a, vs, G, h1, h2, h3, h4⟩ := h
    subst h3
    exact ⟨rfl, a, vs, h1, by rw [Zw.at (e a (List.mem_cons_self ..))]; exact h2, RdK.freeze hz kvs vs G (fun b hb => e b (List.mem_cons_of_mem _ hb)) h4⟩
  | .ins false c fs, v, F, e, h => by
    rw [RdV] at h
    rw [fz, RdV]
    obtain ⟨hF, a, Ca, dx, us, h1, h2, h3, h4⟩ := h
    exact ⟨rfl, a, Ca, dx, us, h1, h2, (Zw.same hz) _ _ h3, RdF.freeze hz fs us [] (fun a ha => by cases ha) h4⟩
  | .ins true c fs, v, F, e, h => by
    rw [RdV] at h
    rw [fz, RdV]
    obtain ⟨a, Ca, dx, us, G, h1, h2, h3, h4, h5⟩ := h
    subst h4
    exact ⟨rfl, a, Ca, dx, us, h1, h2, by rw [Zw.at (e a (List.mem_cons_self ..))]; exact h3, RdF.freeze hz fs us G (fun b hb => e b (List.mem_cons_of_mem _ hb)) h5⟩
  | .set ks, v, F, e, h => by
    rw [RdV] at h
    rw [fz, RdV]
    obtain ⟨hF, a, o, h1, h2, h3⟩ := h
    exact ⟨rfl, a, o, h1, (Zw.same hz) _ _ h2, h3⟩
  | .scr ds, v, F, e, h => by
    rw [RdV] at h
    rw [fz, RdV]
    obtain ⟨hF, a, vs, h1, h2, h3⟩ := h
    exact ⟨rfl, a, vs, h1, (Zw.same hz).seq h2, RdL.freeze hz ds vs [] (fun a ha => by cases ha) h3⟩
  | .exn c fs, v, F, e, h => by
    rw [RdV] at h
    rw [fz, RdV]
    obtain ⟨hF, a, Ca, d, us, h1, h2, h3, h4, h5⟩ := h
    exact ⟨rfl, a, Ca, d, us, h1, h2, (Zw.same hz) _ _ h3, h4.mono (Zw.same hz), RdF.freeze hz fs us [] (fun a ha => by cases ha) h5⟩
  | .fnc f a q ds vs, v, F, e, h => by
    rw [RdV] at h
    rw [fz, RdV]
    exact ⟨rfl, h.2.1, (Zw.same hz) _ _ h.2.2.1, RdL.freeze hz ds vs [] (fun a ha => by cases ha) h.2.2.2⟩
  | .dcg false kvs, v, F, e, h => by
    rw [RdV] at h
    rw [fz, RdV]
    obtain ⟨hF, a, vs, h1, h2, h3⟩ := h
    exact ⟨rfl, a, vs, h1, (Zw.same hz) _ _ h2, RdG.freeze hz kvs vs [] (fun a ha => by cases ha) h3⟩
  | .dcg true kvs, v, F, e, h => by
    rw [RdV] at h
    rw [fz, RdV]
    obtain ⟨a, vs, G, h1, h2, h3, h4⟩ := h
    subst h3
    exact ⟨rfl, a, vs, h1, by rw [Zw.at (e a (List.mem_cons_self ..))]; exact h2, RdG.freeze hz kvs vs G (fun b hb => e b (List.mem_cons_of_mem _ hb)) h4⟩
theorem RdL.freeze {W : List Addr} (hz : ∀ a ∈ W, Z a = none) : ∀ (ds : List D) (vs : List V) (F : List Addr), (∀ a ∈ F, a ∈ W) → RdL C Z H ds vs F → RdL C (Zw Z H W) H' (fzL ds) vs []
  | [], vs, F, _, h => by simpa [RdL, fzL] using h.1
  | d :: ds, vs, F, e, h => by
    rw [RdL] at h
    rw [fzL, RdL]
    obtain ⟨v, r, F1, F2, h1, h2, h3, h4⟩ := h
    subst h2
    exact ⟨v, r, [], [], h1, rfl, RdV.freeze hz d v F1 (fun a ha => e a (List.mem_append_left _ ha)) h3, RdL.freeze hz ds r F2 (fun a ha => e a (List.mem_append_right _ ha)) h4⟩
theorem RdK.freeze {W : List Addr} (hz : ∀ a ∈ W, Z a = none) : ∀ (ds : List (D × D)) (vs : List (Key × V)) (F : List Addr), (∀ a ∈ F, a ∈ W) → RdK C Z H ds vs F → RdK C (Zw Z H W) H' (fzK ds) vs []
  | [], vs, F, _, h => by simpa [RdK, fzK] using h.1
  | (k, d) :: ds, vs, F, e, h => by
    rw [RdK] at h
    rw [fzK, RdK]
    obtain ⟨q, v, r, F1, F2, h1, h2, h3, h4, h5⟩ := h
    subst h2
    exact ⟨q, v, r, [], [], h1, rfl, h3, RdV.freeze hz d v F1 (fun a ha => e a (List.mem_append_left _ ha)) h4, RdK.freeze hz ds r F2 (fun a ha => e a (List.mem_append_right _ ha)) h5⟩
theorem RdG.freeze {W : List Addr} (hz : ∀ a ∈ W, Z a = none) : ∀ (ds : List (D × D)) (vs : List (NestedKey × Addr × V)) (F : List Addr), (∀ a ∈ F, a ∈ W) → RdG C Z H ds vs F → RdG C (Zw Z H W) H' (fzK ds) vs []
  | [], vs, F, _, h => by simpa [RdG, fzK] using h.1
  | (k, d) :: ds, vs, F, e, h => by
    rw [RdG] at h
    rw [fzK, RdG]
    obtain ⟨q, ka, v, r, F1, F2, h1, h2, h3, h6, h4, h5⟩ := h
    subst h2
    exact ⟨q, ka, v, r, [], [], h1, rfl, h3, RdV.mono (Zw.same hz) k (.ref ka) [] (fun a ha => by cases ha) h6, RdV.freeze hz d v F1 (fun a ha => e a (List.mem_append_left _ ha)) h4, RdG.freeze hz ds r F2 (fun a ha => e a (List.mem_append_right _ ha)) h5⟩
theorem RdF.freeze {W : List Addr} (hz : ∀ a ∈ W, Z a = none) : ∀ (ds : List (String × D)) (vs : List (Str × V)) (F : List Addr), (∀ a ∈ F, a ∈ W) → RdF C Z H ds vs F → RdF C (Zw Z H W) H' (fzF ds) vs []
  | [], vs, F, _, h => by simpa [RdF, fzF] using h.1
  | (k, d) :: ds, vs, F, e, h => by
    rw [RdF] at h
    rw [fzF, RdF]
    obtain ⟨v, r, F1, F2, h1, h2, h4, h5⟩ := h
    subst h2
    exact ⟨v, r, [], [], h1, rfl, RdV.freeze hz d v F1 (fun a ha => e a (List.mem_append_left _ ha)) h4, RdF.freeze hz ds r F2 (fun a ha => e a (List.mem_append_right _ ha)) h5⟩
end
mutual
theorem RdV.fzn : ∀ (d : D) (v : V) (F : List Addr), Mi.fzn d = true → RdV C Z H d v F → F = []
  | .non, v, F, _, h => by rw [RdV] at h; exact h.2
  | .bl _, v, F, _, h => by rw [RdV] at h; exact h.2
  | .int _, v, F, _, h => by rw [RdV] at h; exact h.2
  | .str _, v, F, _, h => by rw [RdV] at h; exact h.2
  | .tup ds, v, F, _, h => by rw [RdV] at h; exact h.1
  | .lst false ds, v, F, _, h => by rw [RdV] at h; exact h.1
  | .dct false ds, v, F, _, h => by rw [RdV] at h; exact h.1
  | .ins false c ds, v, F, _, h => by rw [RdV] at h; exact h.1
  | .lst true ds, v, F, e, h => by simp [Mi.fzn] at e
  | .dct true ds, v, F, e, h => by simp [Mi.fzn] at e
  | .ins true c ds, v, F, e, h => by simp [Mi.fzn] at e
  | .set ds, v, F, _, h => by rw [RdV] at h; exact h.1
  | .scr ds, v, F, _, h => by rw [RdV] at h; exact h.1
  | .exn c fs, v, F, _, h => by rw [RdV] at h; exact h.1
  | .fnc f a q ds vs, v, F, _, h => by rw [RdV] at h; exact h.1
  | .dcg false ds, v, F, _, h => by rw [RdV] at h; exact h.1
  | .dcg true ds, v, F, e, h => by simp [Mi.fzn] at e
end
theorem RdL.fznL : ∀ (ds : List D) (vs : List V) (F : List Addr), Mi.fznL ds = true → RdL C Z H ds vs F → F = []
  | [], vs, F, _, h => by rw [RdL] at h; exact h.2
  | d :: ds, vs, F, e, h => by
    rw [RdL] at h
    rw [Mi.fznL, Bool.and_eq_true] at e
    obtain ⟨v, r, F1, F2, h1, h2, h3, h4⟩ := h
    rw [h2, RdV.fzn d v F1 e.1 h3, RdL.fznL ds r F2 e.2 h4]
    rfl
end
/-! ### the two heaps and the owned places; Ω: the tables of code objects that lambdas need -/
theorem tabs_ext {Ω : List (Addr × Str)} {H H' : Hp} {F : List Addr} (t : Tabs Ω H) (k : ∀ a ∈ F, ∀ o, H a = some o → NodeO a o) (e : ∀ b o, H b = some o → b ∉ F → H' b = some o) : Tabs Ω H' := fun p hp => by
  obtain ⟨ps, h1, h2, h3⟩ := t p hp
  refine ⟨ps, e _ _ h1 fun z => (k _ z _ h1).tb ps rfl, h2, fun pos cv hc => ?_⟩
  obtain ⟨c, e1, e2⟩ := h3 pos cv hc
  exact ⟨c, e1, e _ _ e2 fun z => (k _ z _ e2).cd _ rfl⟩
structure Ok (Ω : List (Addr × Str)) (Z H : Hp) (F : List Addr) : Prop where
  zh : Same Z H
  zf : ∀ a ∈ F, Z a = none
  nd : F.Nodup
  live : ∀ a ∈ F, H a ≠ none
  kd : ∀ a ∈ F, ∀ o, H a = some o → NodeO a o
  zt : ∀ a ps, Z a ≠ some (.tbl ps)
  tb : Tabs Ω H
/-- nothing stands at a, or a thing that is never owned -/
def NT (H : Hp) (a : Addr) : Prop := ∀ o, H a = some o → ¬ NodeO a o
theorem nt_none {H : Hp} {a : Addr} (h : H a = none) : NT H a := fun o e => by rw [h] at e; cases e
theorem NT.no {H : Hp} {a : Addr} {o : HO} (h : NT H a) (e : H a = some o) (n : NodeO a o) : False := h o e n
structure Ext (Ω : List (Addr × Str)) (Z H : Hp) (F : List Addr) (Z' H' : Hp) (F' : List Addr) : Prop where
  zz : Same Z Z'
  ok : Ok Ω Z' H' F'
  keep0 : ∀ b o, H b = some o → b ∉ F → (Ω = [] ∨ ∀ ps, o ≠ .tbl ps) → H' b = some o
  fr : ∀ a ∈ F', a ∈ F ∨ NT H a
  zr : ∀ a, Z' a ≠ none → Z a ≠ none ∨ a ∈ F ∨ NT H a
section
variable {Ω : List (Addr × Str)} {Z H Z' H' Z1 H1 Z2 H2 : Hp} {F F' F1 F2 G : List Addr}
theorem Ok.sub (h : Ok Ω Z H F) (nd : G.Nodup) (s : ∀ a ∈ G, a ∈ F) : Ok Ω Z H G := ⟨h.zh, fun a ha => h.zf a (s a ha), nd, fun a ha => h.live a (s a ha), fun a ha => h.kd a (s a ha), h.zt, h.tb⟩
theorem Ext.keep (x : Ext Ω Z H F Z' H' F') (b : Addr) (o : HO) (e : H b = some o) (n : b ∉ F) (nt : ∀ ps, o ≠ .tbl ps) : H' b = some o := x.keep0 b o e n (.inr nt)
theorem Ext.refl (h : Ok Ω Z H F) : Ext Ω Z H F Z H F := ⟨Same.refl _, h, fun _ _ e _ _ => e, fun _ h => .inl h, fun _ h => .inl h⟩
theorem Ext.sub (x : Ext Ω Z H F Z' H' F') (nd : G.Nodup) (s : ∀ a ∈ G, a ∈ F') : Ext Ω Z H F Z' H' G :=
  ⟨x.zz, x.ok.sub nd s, x.keep0, fun a ha => x.fr a (s a ha), x.zr⟩
theorem Ext.left (x : Ext Ω Z H F Z' H' F') (s : ∀ a ∈ F, a ∈ G) : Ext Ω Z H G Z' H' F' :=
  ⟨x.zz, x.ok, fun b o e n => x.keep0 b o e fun z => n (s b z), fun a ha => (x.fr a ha).imp (s a) id, fun a h => (x.zr a h).imp id fun z => z.imp (s a) id⟩
theorem Ext.trans (x : Ext Ω Z H F Z1 H1 F1) (y : Ext Ω Z1 H1 F1 Z2 H2 F2) : Ext Ω Z H F Z2 H2 F2 := by
  have back : ∀ a, NT H1 a → a ∈ F ∨ NT H a := fun a h => by
    by_cases hf : a ∈ F
    · exact .inl hf
    · exact .inr fun o e n => h o (x.keep a o e hf n.tb) n
  refine ⟨x.zz.trans y.zz, y.ok, fun b o e n nt => ?_, fun a ha => ?_, fun a h => ?_⟩
  · have h1 := x.keep0 b o e n nt
    by_cases q : b ∈ F1
    · exfalso
      rcases x.fr b q with z | z
      · exact n z
      · exact z o e (x.ok.kd b q o h1)
    · exact y.keep0 b o h1 q nt
  · rcases y.fr a ha with z | z
    · exact x.fr a z
    · exact back a z
  · rcases y.zr a h with z | z | z
    · exact x.zr a z
    · exact .inr (x.fr a z)
    · exact .inr (back a z)
/-- what is held besides stays held -/
theorem Ext.frame (x : Ext Ω Z H F Z' H' F') (o : Ok Ω Z H (F ++ G)) : Ext Ω Z H (F ++ G) Z' H' (F' ++ G) := by
  have hd : ∀ a ∈ G, a ∉ F := fun a ha hf => (List.nodup_append.mp o.nd).2.2 a hf a ha rfl
  have hg : ∀ a ∈ G, a ∉ F' := fun a ha hf => by
    rcases x.fr a hf with z | z
    · exact hd a ha z
    · cases e : H a with
      | none => exact o.live a (List.mem_append_right _ ha) e
      | some u => exact z.no e (o.kd a (List.mem_append_right _ ha) u e)
  have hk : ∀ a ∈ G, ∃ u, H a = some u ∧ H' a = some u ∧ NodeO a u := fun a ha => by
    cases e : H a with
    | none => exact absurd e (o.live a (List.mem_append_right _ ha))
    | some u =>
      have hn := o.kd a (List.mem_append_right _ ha) u e
      exact ⟨u, rfl, x.keep a u e (hd a ha) hn.tb, hn⟩
  refine ⟨x.zz, ⟨x.ok.zh, fun a ha => ?_, ?_, fun a ha => ?_, fun a ha => ?_, x.ok.zt, x.ok.tb⟩, fun b u e n => x.keep0 b u e fun z => n (List.mem_append_left _ z), fun a ha => ?_, fun a h => ?_⟩
  · rcases List.mem_append.mp ha with ha | ha
    · exact x.ok.zf a ha
    · cases e : Z' a with
      | none => rfl
      | some u =>
        rcases x.zr a (by rw [e]; simp) with z | z | z
        · exact absurd (o.zf a (List.mem_append_right _ ha)) z
        · exact absurd z (hd a ha)
        · obtain ⟨u', e2, _, hn⟩ := hk a ha
          exact (z.no e2 hn).elim
  · refine List.nodup_append.mpr ⟨x.ok.nd, (List.nodup_append.mp o.nd).2.1, fun a ha b hb e => ?_⟩
    subst e
    exact hg a hb ha
  · rcases List.mem_append.mp ha with ha | ha
    · exact x.ok.live a ha
    · obtain ⟨u, _, h, _⟩ := hk a ha
      rw [h]; simp
  · rcases List.mem_append.mp ha with ha | ha
    · exact x.ok.kd a ha
    · obtain ⟨u, _, h, hn⟩ := hk a ha
      intro o' ho'
      rw [h] at ho'
      cases ho'
      exact hn
  · rcases List.mem_append.mp ha with ha | ha
    · exact (x.fr a ha).imp (List.mem_append_left _) id
    · exact .inl (List.mem_append_right _ ha)
  · exact (x.zr a h).imp id fun z => z.imp (List.mem_append_left _) id
/-- .. and reads as it did -/
theorem Ext.held {C : Ct} {d : D} {v : V} (x : Ext Ω Z H F Z' H' F') (hd : ∀ a ∈ G, a ∉ F) (r : RdV C Z H d v G) : RdV C Z' H' d v G := by
  refine RdV.mono x.zz d v G (fun a ha => ?_) r
  obtain ⟨o, e, hn⟩ := RdV.nk d v G r a ha
  rw [x.keep a o e (hd a ha) hn.tb, e]
theorem Ext.new {p : Addr} {o : HO} (h : Ok Ω Z H F) (hp : H p = none) (hn : NodeO p o := by exact node_of rfl) : Ext Ω Z H F Z (upd H p o) (p :: F) := by
  have hz : Z p = none := h.zh.free hp
  refine ⟨Same.refl _, ⟨fun a u e => ?_, fun a ha => ?_, ?_, fun a ha => ?_, fun a ha u e => ?_, h.zt, h.tb.ext (same_new hp)⟩, fun b u e n _ => ?_, fun a ha => ?_, fun a h => .inl h⟩
  · rw [upd_ne (ne_of_none e hz)]; exact h.zh _ _ e
  · rcases List.mem_cons.mp ha with rfl | ha
    · exact hz
    · exact h.zf a ha
  · refine List.nodup_cons.mpr ⟨fun z => h.live p z hp, h.nd⟩
  · rcases List.mem_cons.mp ha with rfl | ha
    · rw [upd_same]; simp
    · rw [upd_ne (fun z : a = p => h.live a ha (by rw [z]; exact hp))]; exact h.live a ha
  · rcases List.mem_cons.mp ha with rfl | ha
    · rw [upd_same] at e; cases e; exact hn
    · rw [upd_ne (fun z : a = p => h.live a ha (by rw [z]; exact hp))] at e; exact h.kd a ha u e
  · rw [upd_ne (ne_of_none e hp)]; exact e
  · rcases List.mem_cons.mp ha with rfl | ha
    · exact .inr (nt_none hp)
    · exact .inl ha
theorem Ext.newZ {p : Addr} {o : HO} (h : Ok Ω Z H F) (hp : H p = none) (ho : ∀ ps, o ≠ .tbl ps := by intro ps z; cases z) : Ext Ω Z H F (upd Z p o) (upd H p o) F := by
  have hz : Z p = none := h.zh.free hp
  refine ⟨same_new hz, ⟨fun a u e => ?_, fun a ha => ?_, h.nd, fun a ha => ?_, fun a ha u e => ?_, fun a ps e => ?_, h.tb.ext (same_new hp)⟩, fun b u e n _ => ?_, fun a ha => .inl ha, fun a e => ?_⟩
  · by_cases q : a = p
    · subst q; rw [upd_same] at e ⊢; exact e
    · rw [upd_ne q] at e ⊢; exact h.zh _ _ e
  · rw [upd_ne (fun z : a = p => h.live a ha (by rw [z]; exact hp))]; exact h.zf a ha
  · rw [upd_ne (fun z : a = p => h.live a ha (by rw [z]; exact hp))]; exact h.live a ha
  · rw [upd_ne (fun z : a = p => h.live a ha (by rw [z]; exact hp))] at e; exact h.kd a ha u e
  · by_cases q : a = p
    · subst q; rw [upd_same] at e; cases e; exact ho ps rfl
    · rw [upd_ne q] at e; exact h.zt a ps e
  · rw [upd_ne (ne_of_none e hp)]; exact e
  · by_cases q : a = p
    · subst q; exact .inr (.inr (nt_none hp))
    · rw [upd_ne q] at e; exact .inl e
/-- a new thing that nobody looks at -/
theorem Ext.junk {p : Addr} {o : HO} (h : Ok Ω Z H F) (hp : H p = none) : Ext Ω Z H F Z (upd H p o) F := by
  have hz : Z p = none := h.zh.free hp
  refine ⟨Same.refl _, ⟨fun a u e => ?_, h.zf, h.nd, fun a ha => ?_, fun a ha u e => ?_, h.zt, h.tb.ext (same_new hp)⟩, fun b u e n _ => ?_, fun a ha => .inl ha, fun a h => .inl h⟩
  · rw [upd_ne (ne_of_none e hz)]; exact h.zh _ _ e
  · rw [upd_ne (fun z : a = p => h.live a ha (by rw [z]; exact hp))]; exact h.live a ha
  · rw [upd_ne (fun z : a = p => h.live a ha (by rw [z]; exact hp))] at e; exact h.kd a ha u e
  · rw [upd_ne (ne_of_none e hp)]; exact e
theorem Ext.mut {a : Addr} {o : HO} (h : Ok Ω Z H F) (ha : a ∈ F) (hn : NodeO a o := by exact node_of rfl) : Ext Ω Z H F Z (upd H a o) F := by
  have keep : ∀ b u, H b = some u → b ∉ F → upd H a o b = some u := fun b u e n => by
    rw [upd_ne (fun z : b = a => n (by rw [z]; exact ha))]; exact e
  refine ⟨Same.refl _, ⟨fun b u e => ?_, h.zf, h.nd, fun b hb => ?_, fun b hb u e => ?_, h.zt, tabs_ext h.tb h.kd keep⟩, fun b u e n _ => keep b u e n, fun b hb => .inl hb, fun b e => .inl e⟩
  · rw [upd_ne (fun z => by subst z; rw [h.zf _ ha] at e; cases e)]; exact h.zh _ _ e
  · by_cases q : b = a
    · subst q; rw [upd_same]; simp
    · rw [upd_ne q]; exact h.live b hb
  · by_cases q : b = a
    · subst q; rw [upd_same] at e; cases e; exact hn
    · rw [upd_ne q] at e; exact h.kd b hb u e
theorem Ext.freeze (h : Ok Ω Z H (G ++ F)) : Ext Ω Z H (G ++ F) (Zw Z H G) H F := by
  have hd : ∀ a ∈ F, a ∉ G := fun a ha hg => (List.nodup_append.mp h.nd).2.2 a hg a ha rfl
  have hz : ∀ a ∈ G, Z a = none := fun a ha => h.zf a (List.mem_append_left _ ha)
  refine ⟨Zw.same hz, ⟨fun a o e => ?_, fun a ha => ?_, (List.nodup_append.mp h.nd).2.1, fun a ha => h.live a (List.mem_append_right _ ha), fun a ha => h.kd a (List.mem_append_right _ ha), fun a ps e => ?_, h.tb⟩, fun b o e _ _ => e,
    fun a ha => .inl (List.mem_append_right _ ha), fun a e => ?_⟩
  · unfold Zw at e
    by_cases q : a ∈ G
    · rw [if_pos q] at e; exact e
    · rw [if_neg q] at e; exact h.zh _ _ e
  · unfold Zw
    rw [if_neg (hd a ha)]
    exact h.zf a (List.mem_append_right _ ha)
  · unfold Zw at e
    by_cases q : a ∈ G
    · rw [if_pos q] at e; exact (h.kd a (List.mem_append_left _ q) _ e).tb ps rfl
    · rw [if_neg q] at e; exact h.zt a ps e
  · by_cases q : a ∈ G
    · exact .inr (.inl (List.mem_append_left _ q))
    · unfold Zw at e; rw [if_neg q] at e; exact .inl e
end
/-! ### the names of a def -/
abbrev Env := List (Option D)
def RdE (C : Ct) (Z H : Hp) : Env → L2.St → List Addr → Prop
  | [], σ, F => σ = [] ∧ F = []
  | none :: e, σ, F => ∃ x s, σ = x :: s ∧ RdE C Z H e s F
  | some d :: e, σ, F => ∃ v s F1 F2, σ = some v :: s ∧ F = F1 ++ F2 ∧ RdV C Z H d v F1 ∧ RdE C Z H e s F2
section
variable {C : Ct} {Z H Z' H' : Hp}
theorem RdE.length : ∀ {env : Env} {σ : L2.St} {F : List Addr}, RdE C Z H env σ F → env.length = σ.length
  | [], _, _, h => by rw [h.1]; rfl
  | none :: e, _, _, h => by obtain ⟨x, s, rfl, h⟩ := h; simp [RdE.length h]
  | some d :: e, _, _, h => by obtain ⟨v, s, F1, F2, rfl, _, _, h⟩ := h; simp [RdE.length h]
theorem RdE.mono (sz : Same Z Z') : ∀ {env : Env} {σ : L2.St} {F : List Addr}, (∀ a ∈ F, H' a = H a) → RdE C Z H env σ F → RdE C Z' H' env σ F
  | [], _, _, _, h => h
  | none :: e, _, _, he, h => by obtain ⟨x, s, rfl, h⟩ := h; exact ⟨x, s, rfl, RdE.mono sz he h⟩
  | some d :: e, _, _, he, h => by
    obtain ⟨v, s, F1, F2, rfl, rfl, r, h⟩ := h
    exact ⟨v, s, F1, F2, rfl, rfl, RdV.mono sz d v F1 (fun a ha => he a (List.mem_append_left _ ha)) r, RdE.mono sz (fun a ha => he a (List.mem_append_right _ ha)) h⟩
theorem RdE.live : ∀ {env : Env} {σ : L2.St} {F : List Addr}, RdE C Z H env σ F → ∀ a ∈ F, H a ≠ none
  | [], _, _, h => by rw [h.2]; intro a ha; cases ha
  | none :: e, _, _, h => by obtain ⟨x, s, rfl, h⟩ := h; exact RdE.live h
  | some d :: e, _, _, h => by
    obtain ⟨v, s, F1, F2, rfl, rfl, r, h⟩ := h
    intro a ha
    rcases List.mem_append.mp ha with ha | ha
    · exact RdV.live d v F1 r a ha
    · exact RdE.live h a ha
theorem RdE.nk : ∀ {env : Env} {σ : L2.St} {F : List Addr}, RdE C Z H env σ F → ∀ a ∈ F, ∃ o, H a = some o ∧ NodeO a o
  | [], _, _, h => by rw [h.2]; intro a ha; cases ha
  | none :: e, _, _, h => by obtain ⟨x, s, rfl, h⟩ := h; exact RdE.nk h
  | some d :: e, _, _, h => by
    obtain ⟨v, s, F1, F2, rfl, rfl, r, h⟩ := h
    intro a ha
    rcases List.mem_append.mp ha with ha | ha
    · exact RdV.nk d v F1 r a ha
    · exact RdE.nk h a ha
/-- a name is taken out -/
theorem RdE.take : ∀ {env : Env} {σ : L2.St} {F : List Addr} {i : Nat} {d : D}, RdE C Z H env σ F → env[i]? = some (some d) →
    ∃ v F1 F2, σ[i]? = some (some v) ∧ RdV C Z H d v F1 ∧ F.Perm (F1 ++ F2) ∧ RdE C Z H (env.set i none) σ F2
  | [], _, _, i, d, h, e => by simp at e
  | none :: r, _, _, 0, d, h, e => by simp at e
  | none :: r, _, _, i + 1, d, h, e => by
    obtain ⟨x, s, rfl, h⟩ := h
    obtain ⟨v, F1, F2, h1, h2, h3, h4⟩ := RdE.take (i := i) h (by simpa using e)
    exact ⟨v, F1, F2, by simpa using h1, h2, h3, ⟨x, s, rfl, h4⟩⟩
  | some d0 :: r, _, _, 0, d, h, e => by
    obtain ⟨v, s, F1, F2, rfl, rfl, q, h⟩ := h
    obtain rfl : d0 = d := by simpa using e
    exact ⟨v, F1, F2, rfl, q, List.Perm.refl _, ⟨some v, s, rfl, h⟩⟩
  | some d0 :: r, _, _, i + 1, d, h, e => by
    obtain ⟨v0, s, G1, G2, rfl, rfl, q, h⟩ := h
    obtain ⟨v, F1, F2, h1, h2, h3, h4⟩ := RdE.take (i := i) h (by simpa using e)
    refine ⟨v, F1, G1 ++ F2, by simpa using h1, h2, ?_, ⟨v0, s, G1, F2, rfl, rfl, q, h4⟩⟩
    refine (List.Perm.append_left G1 h3).trans ?_
    rw [← List.append_assoc, ← List.append_assoc]
    exact List.Perm.append_right F2 List.perm_append_comm
/-- a name is forgotten -/
theorem RdE.drop : ∀ {env : Env} {σ : L2.St} {F : List Addr} (i : Nat), RdE C Z H env σ F → ∃ F2, F2.Sublist F ∧ RdE C Z H (env.set i none) σ F2
  | [], _, _, i, h => ⟨_, List.Sublist.refl _, by simpa using h⟩
  | none :: r, _, F, 0, h => ⟨F, List.Sublist.refl _, h⟩
  | none :: r, _, _, i + 1, h => by
    obtain ⟨x, s, rfl, h⟩ := h
    obtain ⟨F2, h1, h2⟩ := RdE.drop i h
    exact ⟨F2, h1, ⟨x, s, rfl, h2⟩⟩
  | some d0 :: r, _, _, 0, h => by
    obtain ⟨v, s, F1, F2, rfl, rfl, q, h⟩ := h
    exact ⟨F2, List.sublist_append_right .., ⟨some v, s, rfl, h⟩⟩
  | some d0 :: r, _, _, i + 1, h => by
    obtain ⟨v, s, F1, F2, rfl, rfl, q, h⟩ := h
    obtain ⟨F3, h1, h2⟩ := RdE.drop i h
    exact ⟨F1 ++ F3, List.Sublist.append_left h1 F1, ⟨v, s, F1, F3, rfl, rfl, q, h2⟩⟩
/-- a name is given -/
theorem RdE.put : ∀ {env : Env} {σ : L2.St} {F2 F1 : List Addr} {i : Nat} {d : D} {v : V}, RdE C Z H (env.set i none) σ F2 → i < env.length → RdV C Z H d v F1 →
    ∃ F, F.Perm (F1 ++ F2) ∧ RdE C Z H (env.set i (some d)) (σ.set i (some v)) F
  | [], _, _, _, i, d, v, h, e, r => by simp at e
  | x :: env, σ, F2, F1, 0, d, v, h, e, r => by
    obtain ⟨y, s, rfl, h⟩ := h
    exact ⟨F1 ++ F2, List.Perm.refl _, ⟨v, s, F1, F2, rfl, rfl, r, h⟩⟩
  | none :: env, σ, F2, F1, i + 1, d, v, h, e, r => by
    obtain ⟨y, s, rfl, h⟩ := h
    obtain ⟨F, h1, h2⟩ := RdE.put h (by simpa using e) r
    exact ⟨F, h1, ⟨y, _, rfl, h2⟩⟩
  | some d0 :: env, σ, F2, F1, i + 1, d, v, h, e, r => by
    obtain ⟨v0, s, G1, G2, rfl, rfl, q, h⟩ := h
    obtain ⟨F, h1, h2⟩ := RdE.put h (by simpa using e) r
    refine ⟨G1 ++ F, ?_, ⟨v0, _, G1, F, rfl, rfl, q, h2⟩⟩
    refine (List.Perm.append_left G1 h1).trans ?_
    rw [← List.append_assoc, ← List.append_assoc]
    exact List.Perm.append_right G2 List.perm_append_comm
theorem Ext.heldE {Ω : List (Addr × Str)} {F F' G : List Addr} {env : Env} {σ : L2.St} (x : Ext Ω Z H F Z' H' F') (hd : ∀ a ∈ G, a ∉ F) (r : RdE C Z H env σ G) : RdE C Z' H' env σ G := by
  refine RdE.mono x.zz (fun a ha => ?_) r
  obtain ⟨o, e, hn⟩ := RdE.nk r a ha
  rw [x.keep a o e (hd a ha) hn.tb, e]
end
end Mi
set_option maxHeartbeats 4000000
namespace Mi
open PySem PySem.Spec PyProof.Rows L2 RZ Ov
/-! ### what a mirror gives -/
structure Exn where
  c : String
  fs : List (String × D)
inductive R (α : Type) where
  | ok (a : α) (env : Env)
  | ex (x : Exn) (env : Env)
  | no
def R.bind {α β : Type} (r : R α) (f : α → Env → R β) : R β :=
  match r with
  | .ok a e => f a e
  | .ex x e => .ex x e
  | .no => .no
@[simp] theorem R.bind_ok {α β : Type} {a : α} {e : Env} {f : α → Env → R β} : (R.ok a e).bind f = f a e := rfl
@[simp] theorem R.bind_ex {α β : Type} {x : Exn} {e : Env} {f : α → Env → R β} : (R.ex x e).bind f = R.ex x e := rfl
@[simp] theorem R.bind_no {α β : Type} {f : α → Env → R β} : (R.no : R α).bind f = R.no := rfl
abbrev ME := Env → R D
abbrev MB := Env → R Bool
abbrev ML := Env → R (List D)
inductive Fl where
  | nx
  | rt (d : D)
  | bk
  | ct
abbrev MS := Env → R Fl
/-- what a body wants of exceptions; the names that are never given anew -/
structure Cn where
  C : Ct
  px : Option (Value → Option Addr → L2.St → Hp → Prop)
  pin : List Nat
def Pin (ps : List Nat) (σ σ' : L2.St) : Prop := σ'.length = σ.length ∧ ∀ i ∈ ps, σ'[i]? = σ[i]?
theorem Pin.refl (ps : List Nat) (σ : L2.St) : Pin ps σ σ := ⟨rfl, fun _ _ => rfl⟩
theorem Pin.trans {ps : List Nat} {σ σ1 σ2 : L2.St} (a : Pin ps σ σ1) (b : Pin ps σ1 σ2) : Pin ps σ σ2 := ⟨b.1.trans a.1, fun i h => (b.2 i h).trans (a.2 i h)⟩
def Wish (N : Cn) (σ : L2.St) (Z H : Hp) (F : List Addr) (x : Exn) (env : Env) : Prop :=
  match N.px with
  | none => False
  | some W => ∀ σ' a Ca Z' H' F' us, Pin N.pin σ σ' → Ext N.C.T Z H F Z' H' F' → RdE N.C Z' H' env σ' F' → N.C.cls x.c = some Ca → H' a = some (.xd us) → RdF N.C Z' H' x.fs us [] → W (.ref Ca) (some a) σ' H'
def Wp (N : Cn) (σ : L2.St) (Z H : Hp) (F : List Addr) {α : Type} (r : R α) (k : α → Env → Prop) : Prop :=
  match r with
  | .ok a e => k a e
  | .ex x e => Wish N σ Z H F x e
  | .no => False
section
variable {N : Cn} {σ σ' : L2.St} {Z H Z' H' : Hp} {F F' : List Addr} {α β : Type}
theorem Wish.trans {x : Exn} {env : Env} (w : Wish N σ Z H F x env) (p : Pin N.pin σ σ') (e : Ext N.C.T Z H F Z' H' F') : Wish N σ' Z' H' F' x env := by
  unfold Wish at w ⊢
  split at w
  · exact w
  · intro σ2 a Ca Z2 H2 F2 us p2 e2
    exact w σ2 a Ca Z2 H2 F2 us (p.trans p2) (e.trans e2)
theorem Wp.mono {r : R α} {k k' : α → Env → Prop} (w : Wp N σ Z H F r k) (p : Pin N.pin σ σ') (e : Ext N.C.T Z H F Z' H' F') (h : ∀ a env, k a env → k' a env) : Wp N σ' Z' H' F' r k' := by
  cases r with
  | ok a env => exact h a env w
  | ex x env => exact Wish.trans w p e
  | no => exact w
theorem Wp.bind {r : R α} {f : α → Env → R β} {k : β → Env → Prop} (w : Wp N σ Z H F (r.bind f) k) : Wp N σ Z H F r fun a env => Wp N σ Z H F (f a env) k := by
  cases r with
  | ok a env => exact w
  | ex x env => exact w
  | no => exact w
end
/-- an expression: its value may be kept -/
def RefE (N : Cn) (st : Bool) (t : TE) (m : ME) : Prop := ∀ env σ Z H F Q, Ok N.C.T Z H F → RdE N.C Z H env σ F →
  Wp N σ Z H F (m env) (fun d env' => ∀ v Z' H' Fv F', Ext N.C.T Z H F Z' H' (Fv ++ F') → RdV N.C Z' H' d v Fv → RdE N.C Z' H' env' σ F' → (st = true → Same H H') → Q v H') → t σ H Q
/-- .. its value is looked at once -/
def RefT (N : Cn) (st : Bool) (t : TE) (m : ME) : Prop := ∀ env σ Z H F Q, Ok N.C.T Z H F → RdE N.C Z H env σ F →
  Wp N σ Z H F (m env) (fun d env' => ∀ v Z' H' Fv F', Ext N.C.T Z H F Z' H' F' → RdV N.C Z' H' d v Fv → RdE N.C Z' H' env' σ F' → (st = true → Same H H') → Q v H') → t σ H Q
def RefB (N : Cn) (st : Bool) (t : TT) (m : MB) : Prop := ∀ env σ Z H F Q, Ok N.C.T Z H F → RdE N.C Z H env σ F →
  Wp N σ Z H F (m env) (fun b env' => ∀ Z' H' F', Ext N.C.T Z H F Z' H' F' → RdE N.C Z' H' env' σ F' → (st = true → Same H H') → Q b H') → t σ H Q
/-- arguments -/
def RefA (N : Cn) (st : Bool) (t : TA) (m : ML) : Prop := ∀ env σ Z H F Q, Ok N.C.T Z H F → RdE N.C Z H env σ F →
  Wp N σ Z H F (m env) (fun ds env' => ∀ vs Z' H' Fv F', Ext N.C.T Z H F Z' H' (Fv ++ F') → RdL N.C Z' H' ds vs Fv → RdE N.C Z' H' env' σ F' → (st = true → Same H H') → Q vs H') → t σ H Q
/-- each reads -/
def RdA (C : Ct) (Z H : Hp) : List D → List V → Prop
  | [], vs => vs = []
  | d :: ds, vs => ∃ v r F, vs = v :: r ∧ RdV C Z H d v F ∧ RdA C Z H ds r
def RefTA (N : Cn) (st : Bool) (t : TA) (m : ML) : Prop := ∀ env σ Z H F Q, Ok N.C.T Z H F → RdE N.C Z H env σ F →
  Wp N σ Z H F (m env) (fun ds env' => ∀ vs Z' H' F', Ext N.C.T Z H F Z' H' F' → RdA N.C Z' H' ds vs → RdE N.C Z' H' env' σ F' → (st = true → Same H H') → Q vs H') → t σ H Q
section
variable {N : Cn} {C : Ct} {Z H Z' H' : Hp} {F F' G Fv : List Addr}
theorem nodup_right {A B : List Addr} (h : (A ++ B).Nodup) : B.Nodup := (List.nodup_append.mp h).2.1
theorem nodup_left {A B : List Addr} (h : (A ++ B).Nodup) : A.Nodup := (List.nodup_append.mp h).1
theorem Ext.right (x : Ext Ω Z H F Z' H' (Fv ++ F')) : Ext Ω Z H F Z' H' F' := x.sub (nodup_right x.ok.nd) fun a ha => List.mem_append_right _ ha
theorem RefE.toT {st : Bool} {t : TE} {m : ME} (h : RefE N st t m) : RefT N st t m := fun env σ Z H F Q o r w =>
  h env σ Z H F Q o r (w.mono (Pin.refl _ _) (Ext.refl o) fun d env' k v Z' H' Fv F' x rv re s => k v Z' H' Fv F' x.right rv re s)
theorem RdE.same {env : Env} {σ : L2.St} (h : RdE C Z H env σ F) (zz : Same Z Z') (s : Same H H') : RdE C Z' H' env σ F := by
  refine RdE.mono zz (fun a ha => ?_) h
  cases e : H a with
  | none => exact absurd e (RdE.live h a ha)
  | some o => exact s a o e
theorem RdV.same {d : D} {v : V} (h : RdV C Z H d v F) (zz : Same Z Z') (s : Same H H') : RdV C Z' H' d v F := by
  refine RdV.mono zz d v F (fun a ha => ?_) h
  cases e : H a with
  | none => exact absurd e (RdV.live d v F h a ha)
  | some o => exact s a o e
theorem RdL.same {d : List D} {v : List V} (h : RdL C Z H d v F) (zz : Same Z Z') (s : Same H H') : RdL C Z' H' d v F := by
  refine RdL.mono zz d v F (fun a ha => ?_) h
  cases e : H a with
  | none => exact absurd e (RdL.live d v F h a ha)
  | some o => exact s a o e
theorem RdV.frozen {d : D} {v : V} (h : RdV C Z H d v []) (zz : Same Z Z') (H' : Hp) : RdV C Z' H' d v [] := RdV.mono zz d v [] (fun a ha => by cases ha) h
theorem RdL.frozen {d : List D} {v : List V} (h : RdL C Z H d v []) (zz : Same Z Z') (H' : Hp) : RdL C Z' H' d v [] := RdL.mono zz d v [] (fun a ha => by cases ha) h
theorem RdL.toA : ∀ {ds : List D} {vs : List V} {F : List Addr}, RdL C Z H ds vs F → RdA C Z H ds vs
  | [], _, _, h => by rw [RdL] at h; exact h.1
  | d :: ds, _, _, h => by
    rw [RdL] at h
    obtain ⟨v, r, F1, F2, h1, _, h3, h4⟩ := h
    exact ⟨v, r, F1, h1, h3, RdL.toA h4⟩
theorem RdA.same : ∀ {ds : List D} {vs : List V}, RdA C Z H ds vs → Same Z Z' → Same H H' → RdA C Z' H' ds vs
  | [], _, h, _, _ => h
  | d :: ds, _, h, zz, s => by
    obtain ⟨v, r, F, h1, h2, h3⟩ := h
    exact ⟨v, r, F, h1, h2.same zz s, RdA.same h3 zz s⟩
/-! ### leaves -/
def eC (d : D) : ME := fun env => .ok d env
/-- a name that is looked at -/
def eV (i : Nat) : ME := fun env => match env[i]? with | some (some d) => .ok d env | _ => .no
/-- a name whose value is kept elsewhere: it is frozen -/
def eVz (i : Nat) : ME := fun env => match env[i]? with | some (some d) => .ok (fz d) (env.set i (some (fz d))) | _ => .no
/-- a name whose value is handed on: it is forgotten -/
def eMv (i : Nat) : ME := fun env => match env[i]? with | some (some d) => .ok d (env.set i none) | _ => .no
/-- what was looked at and holds no owned node -/
def eK (m : ME) : ME := fun env => (m env).bind fun d e => if fzn d then .ok d e else .no
theorem re_c {d : D} {v : V} (h : ∀ Z H, RdV N.C Z H d v []) : RefE N true (tC v) (eC d) := fun env σ Z H F Q o r w =>
  w v Z H [] F (Ext.refl o) (h Z H) r fun _ => Same.refl _
theorem re_int {i : Int} : RefE N true (tC (.int i)) (eC (.int i)) := re_c fun _ _ => ⟨rfl, rfl⟩
theorem re_bl {i : Bool} : RefE N true (tC (.bl i)) (eC (.bl i)) := re_c fun _ _ => ⟨rfl, rfl⟩
theorem re_str {i : Str} : RefE N true (tC (.str i)) (eC (.str i)) := re_c fun _ _ => ⟨rfl, rfl⟩
theorem re_non : RefE N true (tC .non) (eC .non) := re_c fun _ _ => ⟨rfl, rfl⟩
theorem rt_v {i : Nat} : RefT N true (tVar i) (eV i) := fun env σ Z H F Q o r w => by
  unfold eV at w
  split at w
  · rename_i d e
    obtain ⟨v, F1, F2, h1, h2, h3, h4⟩ := r.take e
    exact ⟨v, h1, w v Z H F1 F (Ext.refl o) h2 r fun _ => Same.refl _⟩
  · exact w.elim
theorem perm_mem {A B : List Addr} (h : A.Perm B) : ∀ a ∈ B, a ∈ A := fun a ha => h.mem_iff.mpr ha
theorem re_vz {i : Nat} : RefE N true (tVar i) (eVz i) := fun env σ Z H F Q o r w => by
  unfold eVz at w
  split at w
  · rename_i d e
    obtain ⟨v, F1, F2, h1, h2, h3, h4⟩ := r.take e
    have o2 : Ok N.C.T Z H (F1 ++ F2) := o.sub (h3.nodup_iff.mp o.nd) (perm_mem h3)
    have x := Ext.freeze o2
    have hv := RdV.freeze (H' := H) (fun a ha => o2.zf a (List.mem_append_left _ ha)) d v F1 (fun a ha => ha) h2
    have h4' : RdE N.C (Zw Z H F1) H (env.set i none) σ F2 := h4.same x.zz (Same.refl _)
    have hlt : i < env.length := by
      rcases Nat.lt_or_ge i env.length with z | z
      · exact z
      · rw [List.getElem?_eq_none z] at e; cases e
    obtain ⟨G, g1, g2⟩ := RdE.put (i := i) h4' hlt hv
    have es : σ.set i (some v) = σ := by
      refine List.ext_getElem? fun j => ?_
      rw [List.getElem?_set]
      by_cases q : i = j
      · subst q
        rw [if_pos rfl, h1, if_pos (by rw [← r.length]; exact hlt)]
      · rw [if_neg q]
    rw [es] at g2
    refine ⟨v, h1, w v (Zw Z H F1) H [] G ?_ hv g2 fun _ => Same.refl _⟩
    refine (x.left (perm_mem h3)).sub ?_ fun a ha => by simpa using g1.mem_iff.mp ha
    exact (g1.nodup_iff).mpr (by simpa using x.ok.nd)
  · exact w.elim
theorem re_mv {i : Nat} : RefE N true (tVar i) (eMv i) := fun env σ Z H F Q o r w => by
  unfold eMv at w
  split at w
  · rename_i d e
    obtain ⟨v, F1, F2, h1, h2, h3, h4⟩ := r.take e
    exact ⟨v, h1, w v Z H F1 F2 ((Ext.refl o).sub (h3.nodup_iff.mp o.nd) (perm_mem h3)) h2 h4 fun _ => Same.refl _⟩
  · exact w.elim
theorem re_k {st : Bool} {t : TE} {m : ME} (h : RefT N st t m) : RefE N st t (eK m) := fun env σ Z H F Q o r w => by
  refine h env σ Z H F Q o r (w.bind.mono (Pin.refl _ _) (Ext.refl o) ?_)
  intro d env' k v Z' H' Fv F' x rv re s
  by_cases q : fzn d = true
  · rw [if_pos q] at k
    have := RdV.fzn d v Fv q rv
    subst this
    exact k v Z' H' [] F' x rv re s
  · rw [if_neg q] at k
    exact k.elim
/-! ### arguments -/
def lNil : ML := fun env => .ok [] env
def lCons (m : ME) (ms : ML) : ML := fun env => (m env).bind fun d e => (ms e).bind fun ds e => .ok (d :: ds) e
theorem ra_nil : RefA N true tNil lNil := fun env σ Z H F Q o r w => w [] Z H [] F (Ext.refl o) ⟨rfl, rfl⟩ r fun _ => Same.refl _
/-- held things stay while the rest is reckoned -/
theorem Ok.split (o : Ok Ω Z H (Fv ++ F)) : Ok Ω Z H F := o.sub (nodup_right o.nd) fun a ha => List.mem_append_right _ ha
theorem Ok.disj (o : Ok Ω Z H (Fv ++ F)) : ∀ a ∈ Fv, a ∉ F := fun a ha hf => (List.nodup_append.mp o.nd).2.2 a ha a hf rfl
theorem Ext.hold (x : Ext Ω Z H F Z' H' F') (o : Ok Ω Z H (Fv ++ F)) : Ext Ω Z H (Fv ++ F) Z' H' (Fv ++ F') := by
  have o2 : Ok Ω Z H (F ++ Fv) := o.sub (List.perm_append_comm.nodup_iff.mp o.nd) fun a ha => by simpa [or_comm] using ha
  have y := (x.frame o2).left (G := Fv ++ F) fun a ha => by simpa [or_comm] using ha
  exact y.sub (List.perm_append_comm.nodup_iff.mp y.ok.nd) fun a ha => by simpa [or_comm] using ha
theorem ra_cons {s1 s2 : Bool} {t : TE} {u : TA} {m : ME} {ms : ML} (h : RefE N s1 t m) (hs : RefA N s2 u ms) : RefA N (s1 && s2) (tCons t u) (lCons m ms) := fun env σ Z H F Q o r w => by
  refine h env σ Z H F _ o r (w.bind.mono (Pin.refl _ _) (Ext.refl o) ?_)
  intro d env1 k v Z1 H1 Fv F1 x1 rv r1 sm1
  have o1 : Ok N.C.T Z1 H1 F1 := x1.ok.split
  refine hs env1 σ Z1 H1 F1 _ o1 r1 ((Wp.bind (k.mono (Pin.refl _ _) x1.right fun _ _ z => z)).mono (Pin.refl _ _) (Ext.refl o1) ?_)
  intro ds env2 k2 vs Z2 H2 Fvs F2 x2 rvs r2 sm2
  have y := x2.hold x1.ok
  refine k2 (v :: vs) Z2 H2 (Fv ++ Fvs) F2 ?_ ?_ r2 fun z => ?_
  · rw [List.append_assoc]; exact x1.trans y
  · rw [RdL]; exact ⟨v, vs, Fv, Fvs, rfl, rfl, x2.held (x1.ok.disj) rv, rvs⟩
  · rw [Bool.and_eq_true] at z; exact (sm1 z.1).trans (sm2 z.2)
theorem rta_nil : RefTA N true tNil lNil := fun env σ Z H F Q o r w => w [] Z H F (Ext.refl o) rfl r fun _ => Same.refl _
theorem rta_cons {s1 : Bool} {t : TE} {u : TA} {m : ME} {ms : ML} (h : RefT N s1 t m) (hs : RefTA N true u ms) : RefTA N s1 (tCons t u) (lCons m ms) := fun env σ Z H F Q o r w => by
  refine h env σ Z H F _ o r (w.bind.mono (Pin.refl _ _) (Ext.refl o) ?_)
  intro d env1 k v Z1 H1 Fv F1 x1 rv r1 sm1
  refine hs env1 σ Z1 H1 F1 _ x1.ok r1 ((Wp.bind (k.mono (Pin.refl _ _) x1 fun _ _ z => z)).mono (Pin.refl _ _) (Ext.refl x1.ok) ?_)
  intro ds env2 k2 vs Z2 H2 F2 x2 rvs r2 sm2
  exact k2 (v :: vs) Z2 H2 F2 (x1.trans x2) ⟨v, vs, Fv, rfl, rv.same x2.zz (sm2 rfl), rvs⟩ r2 fun z => (sm1 z).trans (sm2 rfl)
theorem RefA.toTA {st : Bool} {t : TA} {m : ML} (h : RefA N st t m) : RefTA N st t m := fun env σ Z H F Q o r w =>
  h env σ Z H F Q o r (w.mono (Pin.refl _ _) (Ext.refl o) fun d env' k v Z' H' Fv F' x rv re s => k v Z' H' F' x.right rv.toA re s)
/-! ### operators on values: they add to the heap, and change nothing -/
abbrev Post (C : Ct) (Z H : Hp) (F : List Addr) (d : D) (Q : VK) : Prop := ∀ v Z' H' Fv, Ext C.T Z H F Z' H' (Fv ++ F) → RdV C Z' H' d v Fv → Same H H' → Q v H'
def Fn1 (C : Ct) (r : V → Hp → VK → Prop) (f : D → Option D) : Prop := ∀ d v Fd Z H F Q e, Ok C.T Z H F → RdV C Z H d v Fd → f d = some e → Post C Z H F e Q → r v H Q
def Fn2 (C : Ct) (r : R2) (f : D → D → Option D) : Prop := ∀ d v Fd d' v' Fd' Z H F Q e, Ok C.T Z H F → RdV C Z H d v Fd → RdV C Z H d' v' Fd' → f d d' = some e → Post C Z H F e Q → r v v' H Q
def FnL (C : Ct) (r : List V → Hp → VK → Prop) (f : List D → Option D) : Prop := ∀ ds vs Z H F Q e, Ok C.T Z H F → RdA C Z H ds vs → f ds = some e → Post C Z H F e Q → r vs H Q
def lift (o : Option D) (env : Env) : R D := match o with | some d => .ok d env | none => .no
@[simp] theorem lift_some {d : D} {env : Env} : lift (some d) env = .ok d env := rfl
@[simp] theorem lift_none {env : Env} : lift none env = .no := rfl
def e1 (f : D → Option D) (m : ME) : ME := fun env => (m env).bind fun d e => lift (f d) e
/-- the second changes no owned thing -/
def e2 (f : D → D → Option D) (m n : ME) : ME := fun env => (m env).bind fun d e => (n e).bind fun d' e => lift (f d d') e
def eL (f : List D → Option D) (m : ML) : ME := fun env => (m env).bind fun ds e => lift (f ds) e
theorem post_end {st : Bool} {Q : VK} {d : D} {env : Env} {σ : L2.St} {Z0 H0 : Hp} {F0 : List Addr} {o : Option D} {Zx Hx : Hp} {Fx : List Addr} (x : Ext N.C.T Z0 H0 F0 Z H F) (r : RdE N.C Z H env σ F) (sm : st = true → Same H0 H) (e : o = some d)
    (w : Wp N σ Zx Hx Fx (lift o env) (fun d env' => ∀ v Z' H' Fv F', Ext N.C.T Z0 H0 F0 Z' H' (Fv ++ F') → RdV N.C Z' H' d v Fv → RdE N.C Z' H' env' σ F' → (st = true → Same H0 H') → Q v H')) : Post N.C Z H F d Q := by
  intro v Z' H' Fv y rv s
  rw [e] at w
  exact w v Z' H' Fv F (x.trans y) rv (r.same y.zz s) fun z => (sm z).trans s
theorem wp_lift {k : D → Env → Prop} {σ : L2.St} {o : Option D} {env : Env} (w : Wp N σ Z H F (lift o env) k) : ∃ d, o = some d := by
  cases o with
  | some d => exact ⟨d, rfl⟩
  | none => exact w.elim
theorem re_un {st : Bool} {r : V → Hp → VK → Prop} {f : D → Option D} {t : TE} {m : ME} (hf : Fn1 N.C r f) (h : RefT N st t m) : RefE N st (tUn r t) (e1 f m) := fun env σ Z H F Q o re w => by
  refine h env σ Z H F _ o re (w.bind.mono (Pin.refl _ _) (Ext.refl o) ?_)
  intro d env1 k v Z1 H1 Fd F1 x rd r1 sm
  obtain ⟨e, he⟩ := wp_lift k
  exact hf d v Fd Z1 H1 F1 Q e x.ok rd he (post_end x r1 sm he k)
theorem re_op {s1 : Bool} {r : R2} {f : D → D → Option D} {t u : TE} {m n : ME} (hf : Fn2 N.C r f) (h : RefT N s1 t m) (hu : RefT N true u n) : RefE N s1 (tOp r t u) (e2 f m n) := fun env σ Z H F Q o re w => by
  refine h env σ Z H F _ o re (w.bind.mono (Pin.refl _ _) (Ext.refl o) ?_)
  intro d env1 k v Z1 H1 Fd F1 x1 rd r1 sm1
  refine hu env1 σ Z1 H1 F1 _ x1.ok r1 ((Wp.bind (k.mono (Pin.refl _ _) x1 fun _ _ z => z)).mono (Pin.refl _ _) (Ext.refl x1.ok) ?_)
  intro d2 env2 k2 v2 Z2 H2 Fd2 F2 x2 rd2 r2 sm2
  obtain ⟨e, he⟩ := wp_lift k2
  exact hf d v Fd d2 v2 Fd2 Z2 H2 F2 Q e x2.ok (rd.same x2.zz (sm2 rfl)) rd2 he (post_end (x1.trans x2) r2 (fun z => (sm1 z).trans (sm2 rfl)) he k2)
theorem re_opk {s1 s2 : Bool} {r : R2} {f : D → D → Option D} {t u : TE} {m n : ME} (hf : Fn2 N.C r f) (h : RefE N s1 t m) (hu : RefT N s2 u n) : RefE N (s1 && s2) (tOp r t u) (e2 f m n) := fun env σ Z H F Q o re w => by
  refine h env σ Z H F _ o re (w.bind.mono (Pin.refl _ _) (Ext.refl o) ?_)
  intro d env1 k v Z1 H1 Fd F1 x1 rd r1 sm1
  have o1 := x1.ok.split
  refine hu env1 σ Z1 H1 F1 _ o1 r1 ((Wp.bind (k.mono (Pin.refl _ _) x1.right fun _ _ z => z)).mono (Pin.refl _ _) (Ext.refl o1) ?_)
  intro d2 env2 k2 v2 Z2 H2 Fd2 F2 x2 rd2 r2 sm2
  obtain ⟨e, he⟩ := wp_lift k2
  refine hf d v Fd d2 v2 Fd2 Z2 H2 F2 Q e x2.ok (x2.held x1.ok.disj rd) rd2 he (post_end (x1.right.trans x2) r2 (fun z => ?_) he k2)
  rw [Bool.and_eq_true] at z
  exact (sm1 z.1).trans (sm2 z.2)
theorem re_cb {st : Bool} {r : List V → Hp → VK → Prop} {f : List D → Option D} {t : TA} {m : ML} (hf : FnL N.C r f) (h : RefTA N st t m) : RefE N st (tCB r t) (eL f m) := fun env σ Z H F Q o re w => by
  refine h env σ Z H F _ o re (w.bind.mono (Pin.refl _ _) (Ext.refl o) ?_)
  intro d env1 k v Z1 H1 F1 x rd r1 sm
  obtain ⟨e, he⟩ := wp_lift k
  exact hf d v Z1 H1 F1 Q e x.ok rd he (post_end x r1 sm he k)
theorem post_val {d : D} {v : V} {Q : VK} (o : Ok C.T Z H F) (p : Post C Z H F d Q) (h : RdV C Z H d v []) : Q v H := p v Z H [] (Ext.refl o) h (Same.refl _)
/-! ### truth, and, or, not, if -/
def bB (m : ME) : MB := fun env => (m env).bind fun d e => match d with | .bl b => .ok b e | _ => .no
def bAnd (m n : MB) : MB := fun env => (m env).bind fun b e => if b then n e else .ok false e
def bOr (m n : MB) : MB := fun env => (m env).bind fun b e => if b then .ok true e else n e
def bNot (m : MB) : MB := fun env => (m env).bind fun b e => .ok (!b) e
def eIf (c : MB) (m n : ME) : ME := fun env => (c env).bind fun b e => if b then m e else n e
theorem rb_core {st : Bool} {t : TE} {m : ME} (h : RefT N st t m) : RefB N st (fun σ H Q => t σ H fun x H' => ∃ k, x = .bl k ∧ Q k H') (bB m) := fun env σ Z H F Q o re w => by
  refine h env σ Z H F _ o re (w.bind.mono (Pin.refl _ _) (Ext.refl o) ?_)
  intro d env1 k v Z1 H1 Fd F1 x rd r1 sm
  cases d with
  | bl b =>
    rw [RdV] at rd
    exact ⟨b, rd.1, k Z1 H1 F1 x r1 sm⟩
  | _ => exact k.elim
theorem rb_b {st : Bool} {t : TE} {m : ME} (h : RefT N st t m) : RefB N st (tB t) (bB m) := rb_core h
theorem rb_test {st : Bool} {t : TE} {m : ME} (h : RefT N st t m) : RefB N st (tTest t) (bB m) := rb_core h
theorem Wp.ite {b : Bool} {α : Type} {x y : R α} {σ : L2.St} {k : α → Env → Prop} (w : Wp N σ Z H F (if b then x else y) k) : if b = true then Wp N σ Z H F x k else Wp N σ Z H F y k := by
  cases b <;> exact w
theorem rb_or {s1 s2 : Bool} {t u : TT} {m n : MB} (h : RefB N s1 t m) (hu : RefB N s2 u n) : RefB N (s1 && s2) (tOr t u) (bOr m n) := fun env σ Z H F Q o re w => by
  refine h env σ Z H F _ o re (w.bind.mono (Pin.refl _ _) (Ext.refl o) ?_)
  intro b env1 k Z1 H1 F1 x r1 sm
  cases b with
  | false =>
    rw [if_neg Bool.false_ne_true]
    refine hu env1 σ Z1 H1 F1 _ x.ok r1 (Wp.mono k (Pin.refl _ _) x fun b2 env2 k2 Z2 H2 F2 x2 r2 sm2 => k2 Z2 H2 F2 (x.trans x2) r2 fun z => ?_)
    rw [Bool.and_eq_true] at z
    exact (sm z.1).trans (sm2 z.2)
  | true =>
    rw [if_pos rfl]
    exact k Z1 H1 F1 x r1 fun z => sm (Bool.and_eq_true _ _ ▸ z).1
theorem rb_not {s1 : Bool} {t : TT} {m : MB} (h : RefB N s1 t m) : RefB N s1 (tNot t) (bNot m) := fun env σ Z H F Q o re w => by
  refine h env σ Z H F _ o re (w.bind.mono (Pin.refl _ _) (Ext.refl o) ?_)
  intro b env1 k Z1 H1 F1 x r1 sm
  exact k Z1 H1 F1 x r1 sm
/-- and, or, not as values of bools -/
def eAnd (m n : ME) : ME := fun env => (m env).bind fun d e => match d with | .bl true => n e | .bl false => .ok (.bl false) e | _ => .no
def eOr (m n : ME) : ME := fun env => (m env).bind fun d e => match d with | .bl true => .ok (.bl true) e | .bl false => n e | _ => .no
def eNot (m : ME) : ME := fun env => (m env).bind fun d e => match d with | .bl b => .ok (.bl (!b)) e | _ => .no
theorem rd_bl {b : Bool} : RdV C Z H (.bl b) (.bl b) [] := ⟨rfl, rfl⟩
theorem rd_int {b : Int} : RdV C Z H (.int b) (.int b) [] := ⟨rfl, rfl⟩
theorem rd_str {b : Str} : RdV C Z H (.str b) (.str b) [] := ⟨rfl, rfl⟩
theorem rd_non : RdV C Z H .non .non [] := ⟨rfl, rfl⟩
theorem re_if {s1 s2 s3 : Bool} {c : TT} {t u : TE} {b : MB} {m n : ME} (hc : RefB N s1 c b) (ht : RefE N s2 t m) (hu : RefE N s3 u n) : RefE N (s1 && s2 && s3) (tIf c t u) (eIf b m n) := fun env σ Z H F Q o re w => by
  refine hc env σ Z H F _ o re (w.bind.mono (Pin.refl _ _) (Ext.refl o) ?_)
  intro b env1 k Z1 H1 F1 x r1 sm
  cases b with
  | true =>
    rw [if_pos rfl]
    refine ht env1 σ Z1 H1 F1 _ x.ok r1 (Wp.mono k (Pin.refl _ _) x fun b2 env2 k2 v2 Z2 H2 Fv F2 x2 rv2 r2 sm2 => k2 v2 Z2 H2 Fv F2 (x.trans x2) rv2 r2 fun z => ?_)
    simp only [Bool.and_eq_true] at z
    exact (sm z.1.1).trans (sm2 z.1.2)
  | false =>
    rw [if_neg Bool.false_ne_true]
    refine hu env1 σ Z1 H1 F1 _ x.ok r1 (Wp.mono k (Pin.refl _ _) x fun b2 env2 k2 v2 Z2 H2 Fv F2 x2 rv2 r2 sm2 => k2 v2 Z2 H2 Fv F2 (x.trans x2) rv2 r2 fun z => ?_)
    simp only [Bool.and_eq_true] at z
    exact (sm z.1.1).trans (sm2 z.2)
/-! ### displays -/
def eTup (m : ML) : ME := fun env => (m env).bind fun ds e => if fznL ds && decide (ds.length ≤ sizeLine) then .ok (.tup ds) e else .no
def eLst (m : ML) : ME := fun env => (m env).bind fun ds e => if ds.length ≤ sizeLine then .ok (.lst true ds) e else .no
theorem RdL.length : ∀ {ds : List D} {vs : List V} {F : List Addr}, RdL C Z H ds vs F → ds.length = vs.length
  | [], _, _, h => by rw [RdL] at h; rw [h.1]; rfl
  | d :: ds, _, _, h => by
    rw [RdL] at h
    obtain ⟨v, r, F1, F2, rfl, _, _, h4⟩ := h
    simp [RdL.length h4]
theorem re_tup {st : Bool} {t : TA} {m : ML} (h : RefA N st t m) : RefE N st (tTup t) (eTup m) := fun env σ Z H F Q o re w => by
  refine h env σ Z H F _ o re (w.bind.mono (Pin.refl _ _) (Ext.refl o) ?_)
  intro ds env1 k vs Z1 H1 Fv F1 x rd r1 sm
  by_cases q : (fznL ds && decide (ds.length ≤ sizeLine)) = true
  · rw [if_pos q] at k
    rw [Bool.and_eq_true, decide_eq_true_eq] at q
    have := RdL.fznL ds vs Fv q.1 rd
    subst this
    refine ⟨by rw [← rd.length]; exact q.2, fun p hp => ?_⟩
    have y := Ext.newZ (o := .tup vs) x.right.ok hp
    refine k (.ref p) _ _ [] F1 (x.right.trans y) ?_ (r1.same y.zz (same_new hp)) fun z => (sm z).trans (same_new hp)
    rw [RdV]
    exact ⟨rfl, p, vs, rfl, sqT_of upd_same, rd.frozen y.zz _⟩
  · rw [if_neg q] at k
    exact k.elim
theorem re_lst {st : Bool} {t : TA} {m : ML} (h : RefA N st t m) : RefE N st (tLst t) (eLst m) := fun env σ Z H F Q o re w => by
  refine h env σ Z H F _ o re (w.bind.mono (Pin.refl _ _) (Ext.refl o) ?_)
  intro ds env1 k vs Z1 H1 Fv F1 x rd r1 sm
  by_cases q : ds.length ≤ sizeLine
  · rw [if_pos q] at k
    refine ⟨by rw [← rd.length]; exact q, fun p hp => ?_⟩
    have y := Ext.new (o := .lst vs) x.ok hp
    refine k (.ref p) _ _ (p :: Fv) F1 (x.trans y) ?_ (r1.same y.zz (same_new hp)) fun z => (sm z).trans (same_new hp)
    rw [RdV]
    exact ⟨p, vs, Fv, rfl, upd_same, rfl, rd.same y.zz (same_new hp)⟩
  · rw [if_neg q] at k
    exact k.elim
end
end Mi
set_option maxHeartbeats 4000000
namespace Mi
open PySem PySem.Spec PyProof.Rows L2 RZ Ov
/-! ### statements -/
def Aft (N : Cn) (σ : L2.St) (Z H : Hp) (F : List Addr) (D0 : Ends) (fl : Fl) (env : Env) : Prop :=
  match fl with
  | .nx => ∀ σ' Z' H' F', Pin N.pin σ σ' → Ext N.C.T Z H F Z' H' F' → RdE N.C Z' H' env σ' F' → D0.nx σ' H'
  | .bk => ∀ σ' Z' H' F', Pin N.pin σ σ' → Ext N.C.T Z H F Z' H' F' → RdE N.C Z' H' env σ' F' → D0.bk σ' H'
  | .ct => ∀ σ' Z' H' F', Pin N.pin σ σ' → Ext N.C.T Z H F Z' H' F' → RdE N.C Z' H' env σ' F' → D0.ct σ' H'
  | .rt d => ∀ σ' v Z' H' Fv F', Pin N.pin σ σ' → Ext N.C.T Z H F Z' H' (Fv ++ F') → RdV N.C Z' H' d v Fv → RdE N.C Z' H' env σ' F' → D0.rt v H'
def RefS (N : Cn) (t : TS) (m : MS) : Prop := ∀ env σ Z H F D0, Ok N.C.T Z H F → RdE N.C Z H env σ F →
  Wp N σ Z H F (m env) (Aft N σ Z H F D0) → t D0 σ H
def sSeq (m n : MS) : MS := fun env => (m env).bind fun fl e => match fl with | .nx => n e | fl => .ok fl e
def sPass : MS := fun env => .ok .nx env
def sBk : MS := fun env => .ok .bk env
def sCt : MS := fun env => .ok .ct env
def sRet (m : ME) : MS := fun env => (m env).bind fun d e => .ok (.rt d) e
def sRetN : MS := fun env => .ok (.rt .non) env
def sExpr (m : ME) : MS := fun env => (m env).bind fun _ e => .ok .nx e
def sIf (c : MB) (m n : MS) : MS := fun env => (c env).bind fun b e => if b then m e else n e
section
variable {N : Cn} {C : Ct} {Z H Z' H' Z1 H1 : Hp} {F F' G Fv F1 : List Addr} {σ σ1 : L2.St}
theorem Aft.trans {D0 : Ends} {fl : Fl} {env : Env} (w : Aft N σ Z H F D0 fl env) (p : Pin N.pin σ σ1) (x : Ext N.C.T Z H F Z1 H1 F1) : Aft N σ1 Z1 H1 F1 D0 fl env := by
  cases fl with
  | nx => exact fun σ' Z' H' F' p' x' r => w σ' Z' H' F' (p.trans p') (x.trans x') r
  | bk => exact fun σ' Z' H' F' p' x' r => w σ' Z' H' F' (p.trans p') (x.trans x') r
  | ct => exact fun σ' Z' H' F' p' x' r => w σ' Z' H' F' (p.trans p') (x.trans x') r
  | rt d => exact fun σ' v Z' H' Fv F' p' x' rv r => w σ' v Z' H' Fv F' (p.trans p') (x.trans x') rv r
theorem rs_seq {t u : TS} {m n : MS} (h : RefS N t m) (hu : RefS N u n) : RefS N (tSeq t u) (sSeq m n) := fun env σ Z H F D0 o r w => by
  refine h env σ Z H F _ o r (w.bind.mono (Pin.refl _ _) (Ext.refl o) ?_)
  intro fl env1 k
  cases fl with
  | nx => exact fun σ1 Z1 H1 F1 p x r1 => hu env1 σ1 Z1 H1 F1 D0 x.ok r1 (k.mono p x fun fl env2 k2 => k2.trans p x)
  | bk => exact k
  | ct => exact k
  | rt d => exact k
theorem rs_pass : RefS N tNext sPass := fun env σ Z H F D0 o r w => w σ Z H F (Pin.refl _ _) (Ext.refl o) r
theorem rs_ret {st : Bool} {t : TE} {m : ME} (h : RefE N st t m) : RefS N (tRet t) (sRet m) := fun env σ Z H F D0 o r w => by
  refine h env σ Z H F _ o r (w.bind.mono (Pin.refl _ _) (Ext.refl o) ?_)
  intro d env1 k v Z1 H1 Fv F1 x rv r1 _
  exact k σ v Z1 H1 Fv F1 (Pin.refl _ _) x rv r1
theorem rs_expr {st : Bool} {t : TE} {m : ME} (h : RefT N st t m) : RefS N (tDrop t) (sExpr m) := fun env σ Z H F D0 o r w => by
  refine h env σ Z H F _ o r (w.bind.mono (Pin.refl _ _) (Ext.refl o) ?_)
  intro d env1 k v Z1 H1 Fv F1 x rv r1 _
  exact k σ Z1 H1 F1 (Pin.refl _ _) x r1
theorem rs_if {st : Bool} {c : TT} {t u : TS} {b : MB} {m n : MS} (hc : RefB N st c b) (h : RefS N t m) (hu : RefS N u n) : RefS N (tIfS c t u) (sIf b m n) := fun env σ Z H F D0 o r w => by
  refine hc env σ Z H F _ o r (w.bind.mono (Pin.refl _ _) (Ext.refl o) ?_)
  intro b env1 k Z1 H1 F1 x r1 _
  cases b with
  | true =>
    rw [if_pos rfl]
    exact h env1 σ Z1 H1 F1 D0 x.ok r1 (Wp.mono k (Pin.refl _ _) x fun fl e k => k.trans (Pin.refl _ _) x)
  | false =>
    rw [if_neg Bool.false_ne_true]
    exact hu env1 σ Z1 H1 F1 D0 x.ok r1 (Wp.mono k (Pin.refl _ _) x fun fl e k => k.trans (Pin.refl _ _) x)
/-! ### targets -/
abbrev MG := D → Env → Option Env
def gN (i : Nat) : MG := fun d env => some (env.set i (some d))
def RefG (N : Cn) (ws : List Nat) (g : TG) (m : MG) : Prop := ∀ env σ Z H F Fv d v Q env', Ok N.C.T Z H (Fv ++ F) → RdE N.C Z H env σ F → RdV N.C Z H d v Fv → m d env = some env' →
  (∀ σ' F', F'.Nodup → (∀ a ∈ F', a ∈ Fv ++ F) → (σ'.length = σ.length ∧ ∀ i, i ∉ ws → σ'[i]? = σ[i]?) → RdE N.C Z H env' σ' F' → Q σ' H) → g v σ H Q
theorem rd_set {env : Env} {d : D} {v : V} {i : Nat} (o : Ok C.T Z H (Fv ++ F)) (r : RdE C Z H env σ F) (rv : RdV C Z H d v Fv) : ∃ F', F'.Nodup ∧ (∀ a ∈ F', a ∈ Fv ++ F) ∧ RdE C Z H (env.set i (some d)) (σ.set i (some v)) F' := by
  by_cases hi : i < env.length
  · obtain ⟨F2, h1, h2⟩ := r.drop i
    obtain ⟨F3, h3, h4⟩ := RdE.put h2 hi rv
    refine ⟨F3, ?_, ?_, h4⟩
    · refine h3.nodup_iff.mpr (List.nodup_append.mpr ⟨nodup_left o.nd, h1.nodup (nodup_right o.nd), ?_⟩)
      intro a ha b hb e
      subst e
      exact o.disj a ha (h1.mem hb)
    · intro a ha
      rcases List.mem_append.mp (h3.mem_iff.mp ha) with z | z
      · exact List.mem_append_left _ z
      · exact List.mem_append_right _ (h1.mem z)
  · rw [List.set_eq_of_length_le (by omega), List.set_eq_of_length_le (by rw [← r.length]; omega)]
    exact ⟨F, nodup_right o.nd, fun a ha => List.mem_append_right _ ha, r⟩
theorem rg_n {i : Nat} : RefG N [i] (gName i) (gN i) := fun env σ Z H F Fv d v Q env' o r rv e k => by
  obtain rfl : env.set i (some d) = env' := Option.some.inj e
  obtain ⟨F', h1, h2, h3⟩ := rd_set (i := i) o r rv
  refine k _ F' h1 h2 ⟨List.length_set .., fun j hj => ?_⟩ h3
  rw [List.getElem?_set_ne (by simpa [eq_comm] using hj)]
abbrev MGs := List D → Env → Option Env
def gsNil : MGs := fun ds env => match ds with | [] => some env | _ => none
def gsCons (g : MG) (gs : MGs) : MGs := fun ds env => match ds with | d :: r => (g d env).bind (gs r) | [] => none
def gT (gs : MGs) : MG := fun d env => match d with | .tup ds => gs ds env | _ => none
structure RefGs (N : Cn) (ws : List Nat) (n : Nat) (g : TGs) (m : MGs) : Prop where
  len : ∀ ds env env', m ds env = some env' → ds.length = n
  run : ∀ env σ Z H F ds vs Q env', Ok N.C.T Z H F → RdE N.C Z H env σ F → RdL N.C Z H ds vs [] → m ds env = some env' →
    (∀ σ' F', F'.Nodup → (∀ a ∈ F', a ∈ F) → (σ'.length = σ.length ∧ ∀ i, i ∉ ws → σ'[i]? = σ[i]?) → RdE N.C Z H env' σ' F' → Q σ' H) → g vs σ H Q
theorem rgs_nil : RefGs N [] 0 gNil gsNil := by
  refine ⟨fun ds env env' e => ?_, fun env σ Z H F ds vs Q env' o r rv e k => ?_⟩
  · cases ds with
    | nil => rfl
    | cons => cases e
  · cases ds with
    | nil =>
      rw [RdL] at rv
      obtain rfl : env = env' := Option.some.inj e
      rw [rv.1]
      exact ⟨rfl, k σ F o.nd (fun a ha => ha) ⟨rfl, fun _ _ => rfl⟩ r⟩
    | cons => cases e
theorem rgs_cons {ws ws2 : List Nat} {n : Nat} {g : TG} {gs : TGs} {m : MG} {ms : MGs} (h : RefG N ws g m) (hs : RefGs N ws2 n gs ms) : RefGs N (ws ++ ws2) (n + 1) (gCons g gs) (gsCons m ms) := by
  refine ⟨fun ds env env' e => ?_, fun env σ Z H F ds vs Q env' o r rv e k => ?_⟩
  · cases ds with
    | nil => cases e
    | cons d ds =>
      have e : ((m d env).bind (ms ds)) = some env' := e
      cases q : m d env with
      | none => rw [q] at e; cases e
      | some env1 =>
        rw [q] at e
        rw [List.length_cons, hs.len ds env1 env' e]
  · cases ds with
    | nil => cases e
    | cons d ds =>
      rw [RdL] at rv
      obtain ⟨v, vr, F1, F2, rfl, hF, rv1, rv2⟩ := rv
      obtain ⟨rfl, rfl⟩ : F1 = [] ∧ F2 = [] := by
        have := hF.symm
        simpa using this
      have e : ((m d env).bind (ms ds)) = some env' := e
      cases q : m d env with
      | none => rw [q] at e; cases e
      | some env1 =>
        rw [q] at e
        have e : ms ds env1 = some env' := e
        refine ⟨v, vr, rfl, h env σ Z H F [] d v _ env1 (by simpa using o) r rv1 q fun σ1 F1 h1 h2 h3 h4 => ?_⟩
        have o1 : Ok N.C.T Z H F1 := o.sub h1 (by simpa using h2)
        refine hs.run env1 σ1 Z H F1 ds vr Q env' o1 h4 rv2 e fun σ2 F2 g1 g2 g3 g4 => k σ2 F2 g1 (fun a ha => by simpa using h2 a (g2 a ha)) ⟨g3.1.trans h3.1, fun i hi => ?_⟩ g4
        rw [List.mem_append, not_or] at hi
        rw [g3.2 i hi.2, h3.2 i hi.1]
theorem rg_t {ws : List Nat} {n : Nat} {gs : TGs} {ms : MGs} (h : RefGs N ws n gs ms) : RefG N ws (gTup N.C.K n gs) (gT ms) := fun env σ Z H F Fv d v Q env' o r rv e k => by
  cases d with
  | tup ds =>
    rw [RdV] at rv
    obtain ⟨rfl, a, vs, rfl, h1, h2⟩ := rv
    have o1 : Ok N.C.T Z H F := by simpa using o
    refine ⟨a, vs, rfl, Same.seqT o1.zh h1, by rw [← h2.length]; exact h.len ds env env' e, ?_⟩
    exact h.run env σ Z H F ds vs Q env' o1 r h2 e fun σ' F' g1 g2 g3 g4 => k σ' F' g1 (fun a ha => by simpa using g2 a ha) g3 g4
  | _ => cases e
def gOk (ws pin : List Nat) : Bool := pin.all fun i => !ws.contains i
def sAsg (g : MG) (m : ME) : MS := fun env => (m env).bind fun d e => match g d e with | some e' => .ok .nx e' | none => .no
theorem rs_asg {st : Bool} {ws : List Nat} {t : TE} {g : TG} {m : ME} {mg : MG} (h : RefE N st t m) (hg : RefG N ws g mg) (hp : gOk ws N.pin = true) : RefS N (tAsg t g) (sAsg mg m) := fun env σ Z H F D0 o r w => by
  refine h env σ Z H F _ o r (w.bind.mono (Pin.refl _ _) (Ext.refl o) ?_)
  intro d env1 k v Z1 H1 Fv F1 x rv r1 _
  cases q : mg d env1 with
  | none => rw [q] at k; exact k.elim
  | some env2 =>
    rw [q] at k
    refine hg env1 σ Z1 H1 F1 Fv d v _ env2 x.ok r1 rv q fun σ2 F2 h1 h2 h3 h4 => ?_
    refine k σ2 Z1 H1 F2 ⟨h3.1, fun i hi => h3.2 i fun z => ?_⟩ (x.sub h1 h2) h4
    have := List.all_eq_true.mp hp i hi
    simp [z] at this
def sPar (i j : Nat) (m : ML) : MS := fun env => (m env).bind fun ds e => match ds with | [d1, d2] => .ok .nx ((e.set i (some d1)).set j (some d2)) | _ => .no
theorem rs_par {st : Bool} {i j : Nat} {t : TA} {m : ML} (h : RefA N st t m) (hp : gOk [i, j] N.pin = true) : RefS N (tPar i j t) (sPar i j m) := fun env σ Z H F D0 o r w => by
  refine h env σ Z H F _ o r (w.bind.mono (Pin.refl _ _) (Ext.refl o) ?_)
  intro ds env1 k vs Z1 H1 Fv F1 x rv r1 _
  match ds, rv, k with
  | [], _, k => exact k.elim
  | [_], _, k => exact k.elim
  | _ :: _ :: _ :: _, _, k => exact k.elim
  | [d1, d2], rv, k =>
    rw [RdL, ] at rv
    obtain ⟨v1, r1', G1, G2, rfl, rfl, rv1, rv2⟩ := rv
    rw [RdL] at rv2
    obtain ⟨v2, r2', G3, G4, rfl, rfl, rv2, rv3⟩ := rv2
    rw [RdL] at rv3
    obtain ⟨rfl, rfl⟩ := rv3
    refine ⟨v1, v2, rfl, ?_⟩
    have o1 := x.ok
    simp only [List.append_nil, List.append_assoc] at o1
    have oA : Ok N.C.T Z1 H1 (G1 ++ F1) := o1.sub (by
      refine List.nodup_append.mpr ⟨nodup_left o1.nd, nodup_right (nodup_right o1.nd), fun a ha b hb e => ?_⟩
      subst e
      exact o1.disj a ha (List.mem_append_right _ hb)) (fun a ha => by
      rcases List.mem_append.mp ha with z | z
      · exact List.mem_append_left _ z
      · exact List.mem_append_right _ (List.mem_append_right _ z))
    obtain ⟨F2, h1, h2, h3⟩ := rd_set (i := i) oA r1 rv1
    have oB : Ok N.C.T Z1 H1 (G3 ++ F2) := o1.sub (by
      refine List.nodup_append.mpr ⟨nodup_left (nodup_right o1.nd), h1, fun a ha b hb e => ?_⟩
      subst e
      rcases List.mem_append.mp (h2 a hb) with z | z
      · exact o1.disj a z (List.mem_append_left _ ha)
      · exact o1.split.disj a ha z) (fun a ha => by
      rcases List.mem_append.mp ha with z | z
      · exact List.mem_append_right _ (List.mem_append_left _ z)
      · rcases List.mem_append.mp (h2 a z) with z | z
        · exact List.mem_append_left _ z
        · exact List.mem_append_right _ (List.mem_append_right _ z))
    obtain ⟨F3, g1, g2, g3⟩ := rd_set (i := j) oB h3 rv2
    refine k _ Z1 H1 F3 ⟨by rw [List.length_set, List.length_set], fun l hl => ?_⟩ (x.sub g1 fun a ha => ?_) g3
    · have := List.all_eq_true.mp hp l hl
      simp only [List.contains_cons, List.contains_nil, Bool.or_false, Bool.not_eq_true', Bool.or_eq_false_iff, beq_eq_false_iff_ne] at this
      rw [List.getElem?_set_ne (Ne.symm this.2), List.getElem?_set_ne (Ne.symm this.1)]
    · simp only [List.append_nil, List.append_assoc]
      rcases List.mem_append.mp (g2 a ha) with z | z
      · exact List.mem_append_right _ (List.mem_append_left _ z)
      · rcases List.mem_append.mp (h2 a z) with z | z
        · exact List.mem_append_left _ z
        · exact List.mem_append_right _ (List.mem_append_right _ z)
/-- x op= e, on flat values -/
def sAug (i : Nat) (f : D → D → Option D) (m : ME) : MS := fun env => match env[i]? with
  | some (some d) => (m env).bind fun d' e => match f d d' with | some r => .ok .nx (e.set i (some r)) | none => .no
  | _ => .no
/-! ### while -/
/-! ### what is walked -/
/-- what comes at turn i -/
def YD (C : Ct) (Z : Hp) (ds : List D) (i : Nat) (H : Hp) (x : V) (H' : Hp) : Prop := ∃ d, ds[i]? = some d ∧
  ((H' = H ∧ RdV C Z H d x []) ∨ ∃ T us dd, x = .ref T ∧ H T = none ∧ H' = upd H T (.tup us) ∧ d = .tup dd ∧ RdL C Z H dd us [])
abbrev MI := Env → R (List D)
def RefI (N : Cn) (wi : TI) (m : MI) : Prop := ∀ env σ Z H F (Rr : It → Hp → Prop), Ok N.C.T Z H F → RdE N.C Z H env σ F →
  Wp N σ Z H F (m env) (fun ds env' => ∀ J Z' H' F', Ext N.C.T Z H F Z' H' F' → RdE N.C Z' H' env' σ F' → Walk J ds.length (fun H => Same Z' H) (YD N.C Z' ds) → Rr J H') → wi σ H Rr
/-- from the start again with things that stay -/
theorem YD.state {ds : List D} {i : Nat} {x : V} {env : Env} (y : YD C Z ds i H1 x H') (sz : Same Z Z1) (o : Ok C.T Z1 H1 F) (r : RdE C Z1 H1 env σ F) :
    ∃ d Z2, ds[i]? = some d ∧ Ext C.T Z1 H1 F Z2 H' F ∧ RdV C Z2 H' d x [] ∧ RdE C Z2 H' env σ F ∧ Same H1 H' := by
  obtain ⟨d, e, h | ⟨T, us, dd, rfl, hT, rfl, rfl, h⟩⟩ := y
  · obtain ⟨rfl, h⟩ := h
    exact ⟨d, Z1, e, Ext.refl o, h.frozen sz _, r, Same.refl _⟩
  · have x := Ext.newZ (o := .tup us) o hT
    refine ⟨_, _, e, x, ?_, r.same x.zz (same_new hT), same_new hT⟩
    rw [RdV]
    exact ⟨rfl, T, us, rfl, sqT_of upd_same, h.frozen (sz.trans x.zz) _⟩
def forL (g : MG) (m : MS) : List D → Env → R Fl
  | [], env => .ok .nx env
  | d :: ds, env => match g d env with
    | none => .no
    | some e => (m e).bind fun fl e => match fl with
      | .nx => forL g m ds e
      | .ct => forL g m ds e
      | .bk => .ok .nx e
      | .rt d => .ok (.rt d) e
def sFor (it : MI) (g : MG) (m : MS) : MS := fun env => (it env).bind fun ds e => forL g m ds e
theorem rs_for {ws : List Nat} {wi : TI} {it : MI} {g : TG} {mg : MG} {t : TS} {m : MS} (hi : RefI N wi it) (hg : RefG N ws g mg) (h : RefS N t m) (hp : gOk ws N.pin = true) : RefS N (tFor wi g t) (sFor it mg m) := fun env σ Z H F D0 o r w => by
  refine hi env σ Z H F _ o r (w.bind.mono (Pin.refl _ _) (Ext.refl o) ?_)
  intro ds env1 k J Z1 H1 F1 x1 r1 wk
  refine for_it wk (fun i σ2 H2 => ∃ env2 Z2 F2, Pin N.pin σ σ2 ∧ Ext N.C.T Z1 H1 F1 Z2 H2 F2 ∧ RdE N.C Z2 H2 env2 σ2 F2 ∧ Wp N σ2 Z2 H2 F2 (forL mg m (ds.drop i) env2) (Aft N σ2 Z2 H2 F2 D0)) ?_ ?_ ?_ ?_
  · exact ⟨env1, Z1, F1, Pin.refl _ _, Ext.refl x1.ok, r1, Wp.mono k (Pin.refl _ _) x1 fun fl e z => z.trans (Pin.refl _ _) x1⟩
  · rintro i σ2 H2 _ ⟨env2, Z2, F2, p2, x2, r2, _⟩
    exact x2.zz.trans x2.ok.zh
  · rintro i xv σ2 H2 H3 hi ⟨env2, Z2, F2, p2, x2, r2, w2⟩ y
    obtain ⟨d, Z3, ed, x3, rv, r3, _⟩ := y.state x2.zz x2.ok r2
    have hl : i < ds.length := hi
    have e2 : ds.drop i = d :: ds.drop (i + 1) := by
      rw [List.drop_eq_getElem_cons hl]
      congr 1
      rw [List.getElem?_eq_getElem hl] at ed
      exact Option.some.inj ed
    rw [e2, forL] at w2
    cases q : mg d env2 with
    | none => rw [q] at w2; exact w2.elim
    | some env3 =>
      rw [q] at w2
      refine hg env2 σ2 Z3 H3 F2 [] d xv _ env3 (by simpa using x3.ok) r3 rv q fun σ4 F4 h1 h2 h3 h4 => ?_
      have p4 : Pin N.pin σ2 σ4 := ⟨h3.1, fun l hl => h3.2 l fun z => by
        have := List.all_eq_true.mp hp l hl
        simp [z] at this⟩
      have x4 : Ext N.C.T Z2 H2 F2 Z3 H3 F4 := x3.sub h1 fun a ha => by simpa using h2 a ha
      refine h env3 σ4 Z3 H3 F4 _ x4.ok h4 ((Wp.mono (Wp.bind w2) p4 x4 fun _ _ z => z).mono (Pin.refl _ _) (Ext.refl x4.ok) ?_)
      intro fl env5 k5
      cases fl with
      | nx =>
        intro σ5 Z5 H5 F5 p5 x5 r5
        exact ⟨env5, Z5, F5, (p2.trans p4).trans p5, (x2.trans x4).trans x5, r5, Wp.mono k5 (p4.trans p5) (x4.trans x5) fun fl e z => z.trans (p4.trans p5) (x4.trans x5)⟩
      | ct =>
        intro σ5 Z5 H5 F5 p5 x5 r5
        exact ⟨env5, Z5, F5, (p2.trans p4).trans p5, (x2.trans x4).trans x5, r5, Wp.mono k5 (p4.trans p5) (x4.trans x5) fun fl e z => z.trans (p4.trans p5) (x4.trans x5)⟩
      | bk =>
        intro σ5 Z5 H5 F5 p5 x5 r5
        exact k5 σ5 Z5 H5 F5 (p4.trans p5) (x4.trans x5) r5
      | rt d =>
        intro σ5 v Z5 H5 Fv F5 p5 x5 rv r5
        exact k5 σ5 v Z5 H5 Fv F5 (p4.trans p5) (x4.trans x5) rv r5
  · rintro σ2 H2 ⟨env2, Z2, F2, p2, x2, r2, w2⟩
    rw [List.drop_length] at w2
    exact w2 σ2 Z2 H2 F2 (Pin.refl _ _) (Ext.refl x2.ok) r2
end
end Mi
set_option maxHeartbeats 4000000
namespace Mi
open PySem PySem.Spec PyProof.Rows L2 RZ Ov
section
variable {N : Cn} {C : Ct} {Z H Z' H' Z1 H1 : Hp} {F F' G Fv F1 : List Addr} {σ σ1 : L2.St}
/-! ### what is walked -/
theorem RdL.get : ∀ {ds : List D} {vs : List V} {i : Nat}, RdL C Z H ds vs [] → i < ds.length → ∃ d v, ds[i]? = some d ∧ vs[i]? = some v ∧ RdV C Z H d v []
  | [], _, i, _, h => by simp at h
  | d :: ds, _, i, h, hi => by
    rw [RdL] at h
    obtain ⟨v, r, F1, F2, rfl, hF, h3, h4⟩ := h
    obtain ⟨rfl, rfl⟩ : F1 = [] ∧ F2 = [] := by simpa using hF.symm
    cases i with
    | zero => exact ⟨d, v, rfl, rfl, h3⟩
    | succ i =>
      obtain ⟨d', v', e1, e2, e3⟩ := RdL.get (i := i) h4 (by simpa using hi)
      exact ⟨d', v', by simpa using e1, by simpa using e2, e3⟩
/-- a list or tuple, by its items -/
def seqD : D → Option (List D)
  | .tup ds => some ds
  | .lst _ ds => some ds
  | .scr ds => some ds
  | _ => none
def iSeq (m : ME) : MI := fun env => (m env).bind fun d e => match seqD (fz d) with | some ds => .ok ds e | none => .no
def iSeqU (K : PySem.W.Frag) (tl : TE) : TI := fun σ H R => tl σ H fun x H1 => ∃ a, x = .ref a ∧ (((∃ xs, SqL K H1 a xs) ∧ R (Itl K a) H1) ∨ ((∃ xs, SqT K H1 a xs) ∧ R (Itt K a) H1))
theorem RefE.freeze {st : Bool} {t : TE} {m : ME} (h : RefE N st t m) : ∀ env σ Z H F Q, Ok N.C.T Z H F → RdE N.C Z H env σ F →
  Wp N σ Z H F (m env) (fun d env' => ∀ v Z' H' F', Ext N.C.T Z H F Z' H' F' → RdV N.C Z' H' (fz d) v [] → RdE N.C Z' H' env' σ F' → (st = true → Same H H') → Q v H') → t σ H Q := fun env σ Z H F Q o r w => by
  refine h env σ Z H F _ o r (w.mono (Pin.refl _ _) (Ext.refl o) ?_)
  intro d env1 k v Z1 H1 Fv F1 x rv r1 s1
  have y := Ext.freeze x.ok
  exact k v _ H1 F1 (x.trans y) (RdV.freeze (fun a ha => x.ok.zf a (List.mem_append_left _ ha)) d v Fv (fun a ha => ha) rv) (r1.same y.zz (Same.refl _)) s1
theorem walk_L {ds : List D} {vs : List V} {a : Addr} (h : SqL C.K Z a vs) (r : RdL C Z H ds vs []) : Walk (Itl C.K a) ds.length (fun H => Same Z H) (YD C Z ds) := by
  have w := walk_list (K := C.K) (a := a) (xs := vs)
  rw [← r.length] at w
  refine w.mono (fun H s => s.seq h) ?_
  rintro i H2 x H3 hi _ ⟨rfl, e⟩
  obtain ⟨d, v, e1, e2, e3⟩ := r.get hi
  rw [e] at e2
  cases e2
  exact ⟨d, e1, .inl ⟨rfl, e3.frozen (Same.refl _) _⟩⟩
theorem walk_T {ds : List D} {vs : List V} {a : Addr} (h : SqT C.K Z a vs) (r : RdL C Z H ds vs []) : Walk (Itt C.K a) ds.length (fun H => Same Z H) (YD C Z ds) := by
  have w := walk_tup (K := C.K) (a := a) (xs := vs)
  rw [← r.length] at w
  refine w.mono (fun H s => Same.seqT s h) ?_
  rintro i H2 x H3 hi _ ⟨rfl, e⟩
  obtain ⟨d, v, e1, e2, e3⟩ := r.get hi
  rw [e] at e2
  cases e2
  exact ⟨d, e1, .inl ⟨rfl, e3.frozen (Same.refl _) _⟩⟩
theorem ri_seq {st : Bool} {t : TE} {m : ME} (h : RefE N st t m) : RefI N (iSeqU N.C.K t) (iSeq m) := fun env σ Z H F Rr o r w => by
  refine h.freeze env σ Z H F _ o r (w.bind.mono (Pin.refl _ _) (Ext.refl o) ?_)
  intro d env1 k v Z1 H1 F1 x rv r1 _
  cases e : fz d with
  | tup ds =>
    rw [e] at rv k
    rw [RdV] at rv
    obtain ⟨_, a, vs, rfl, h1, h2⟩ := rv
    exact ⟨a, rfl, .inr ⟨⟨vs, Same.seqT x.ok.zh h1⟩, k _ Z1 H1 F1 x r1 (walk_T h1 h2)⟩⟩
  | lst o2 ds =>
    cases o2 with
    | false =>
      rw [e] at rv k
      rw [RdV] at rv
      obtain ⟨_, a, vs, rfl, h1, h2⟩ := rv
      exact ⟨a, rfl, .inl ⟨⟨vs, sqL_of (x.ok.zh _ _ h1)⟩, k _ Z1 H1 F1 x r1 (walk_L (sqL_of h1) h2)⟩⟩
    | true => exfalso; cases d <;> simp [fz] at e
  | scr ds =>
    rw [e] at rv k
    rw [RdV] at rv
    obtain ⟨_, a, vs, rfl, h1, h2⟩ := rv
    exact ⟨a, rfl, .inl ⟨⟨vs, x.ok.zh.seq h1⟩, k _ Z1 H1 F1 x r1 (walk_L h1 h2)⟩⟩
  | _ => rw [e] at k; exact k.elim
/-- range -/
theorem RdA.one {d : D} {vs : List V} (h : RdA C Z H [d] vs) : ∃ v F, vs = [v] ∧ RdV C Z H d v F := by
  obtain ⟨v, r, F, rfl, h1, h2⟩ := h
  exact ⟨v, F, by rw [show r = [] from h2], h1⟩
theorem RdA.two {d e : D} {vs : List V} (h : RdA C Z H [d, e] vs) : ∃ v F w G, vs = [v, w] ∧ RdV C Z H d v F ∧ RdV C Z H e w G := by
  obtain ⟨v, r, F, rfl, h1, h2⟩ := h
  obtain ⟨w, G, rfl, h3⟩ := RdA.one h2
  exact ⟨v, F, w, G, rfl, h1, h3⟩
def rng1 : List D → Option (List D)
  | [.int j] => if -(2 ^ 62) ≤ j ∧ j < 2 ^ 62 then some ((List.range j.toNat).map fun k : Nat => .int (k : Int)) else none
  | _ => none
def iOf (f : List D → Option (List D)) (m : ML) : MI := fun env => (m env).bind fun ds e => match f ds with | some r => .ok r e | none => .no
theorem walk_fn {J : It} {n : Nat} {f : Nat → Int} (w : Walk J n (fun _ => True) (YFn fun i => .int (f i))) : Walk J ((List.range n).map fun k => D.int (f k)).length (fun H => Same Z H) (YD C Z ((List.range n).map fun k => D.int (f k))) := by
  rw [List.length_map, List.length_range]
  refine w.mono (fun _ _ => trivial) ?_
  rintro i H2 x H3 hi _ ⟨rfl, rfl⟩
  exact ⟨.int (f i), by simp [hi], .inl ⟨rfl, rd_int⟩⟩
theorem ri_of {st : Bool} {t : TA} {m : ML} {f : List D → Option (List D)} {wi : TA → TI} (h : RefTA N st t m)
    (hw : ∀ ds vs Z H F items (Rr : It → Hp → Prop), Ok N.C.T Z H F → RdA N.C Z H ds vs → f ds = some items → (∀ J, Walk J items.length (fun H => Same Z H) (YD N.C Z items) → Rr J H) → ∀ σ, wi (fun _ H Q => Q vs H) σ H Rr)
    (hm : ∀ σ H Rr, (t σ H fun vs H1 => wi (fun _ H Q => Q vs H) σ H1 Rr) → wi t σ H Rr) : RefI N (wi t) (iOf f m) := fun env σ Z H F Rr o r w => by
  refine hm σ H Rr (h env σ Z H F _ o r (w.bind.mono (Pin.refl _ _) (Ext.refl o) ?_))
  intro ds env1 k vs Z1 H1 F1 x rv r1 _
  cases q : f ds with
  | none => rw [q] at k; exact k.elim
  | some items =>
    rw [q] at k
    exact hw ds vs Z1 H1 F1 items Rr x.ok rv q (fun J wk => k J Z1 H1 F1 x r1 wk) σ
theorem ri_rng1 {st : Bool} {t : TA} {m : ML} (h : RefTA N st t m) : RefI N (iRng1 t) (iOf rng1 m) := by
  refine ri_of h ?_ fun _ _ _ h => h
  intro ds vs Z H F items Rr o rv e k σ
  unfold rng1 at e
  split at e
  · rename_i j
    split at e
    · rename_i q
      cases e
      obtain ⟨v, Fd, rfl, h1⟩ := rv.one
      rw [RdV] at h1
      obtain ⟨rfl, rfl⟩ := h1
      refine ⟨j, rfl, q.1, q.2, k _ ?_⟩
      have w := walk_range (lo := 0) (n := j.toNat)
      have e : (fun i : Nat => V.int (0 + (i : Int))) = fun i : Nat => V.int (i : Int) := by funext i; simp
      rw [e] at w
      exact walk_fn w
    · cases e
  · cases e
/-- zip of two lists or two tuples that hold no owned node -/
def zipD : List D → Option (List D)
  | [.tup a, .tup b] => some (List.zipWith (fun x y => .tup [x, y]) a b)
  | [.lst false a, .lst false b] => some (List.zipWith (fun x y => .tup [x, y]) a b)
  | _ => none
/-- enumerate of a list that holds no owned node -/
def enumD : List D → Option (List D)
  | [.lst false a] => some ((List.range a.length).zipWith (fun (i : Nat) x => .tup [.int (i : Int), x]) a)
  | _ => none
theorem ri_enum {st : Bool} {t : TA} {m : ML} (h : RefTA N st t m) : RefI N (iEnum N.C.K t) (iOf enumD m) := by
  refine ri_of (wi := iEnum N.C.K) h ?_ fun _ _ _ h => h
  intro ds vs Z H F items Rr o rv e k σ
  unfold enumD at e
  split at e
  · rename_i a
    cases e
    obtain ⟨v, Fd, rfl, h1⟩ := rv.one
    rw [RdV] at h1
    obtain ⟨_, p, xs, rfl, p1, p2⟩ := h1
    replace p1 := sqL_of (K := N.C.K) p1
    refine ⟨p, xs, rfl, o.zh.seq p1, k _ ?_⟩
    rw [List.length_zipWith, List.length_range, Nat.min_self]
    have w := walk_enum (K := N.C.K) (a := p) (xs := xs)
    rw [← p2.length] at w
    refine w.mono (fun H s => s.seq p1) ?_
    rintro i H2 x H3 hi _ ⟨T, x1, y1, rfl, h2, rfl, h3, h4⟩
    obtain ⟨d, v, e1, e2, e3⟩ := p2.get hi
    have h4 : xs[i]? = some y1 := h4
    have h3 : some (V.int (i : Int)) = some x1 := h3
    cases h3
    rw [e2] at h4; cases h4
    refine ⟨.tup [.int (i : Int), d], by rw [List.getElem?_zipWith, e1, List.getElem?_range hi], .inr ⟨T, [.int (i : Int), y1], [.int (i : Int), d], rfl, h2, rfl, rfl, ?_⟩⟩
    exact ⟨.int (i : Int), [y1], [], [], rfl, rfl, rd_int, y1, [], [], [], rfl, rfl, e3.frozen (Same.refl _) _, rfl, rfl⟩
  · cases e
/-- the signs of a text -/
def iStrD (m : ME) : MI := fun env => (m env).bind fun d e => match d with | .str x => .ok (x.cps.toList.map fun c => .str ⟨#[c]⟩) e | _ => .no
/-! ### comprehensions -/
def R.bind0 {α β : Type} (r : R α) (f : α → Env → R β) : R β :=
  match r with
  | .ok a e => f a e
  | _ => .no
@[simp] theorem R.bind0_ok {α β : Type} {a : α} {e : Env} {f : α → Env → R β} : (R.ok a e).bind0 f = f a e := rfl
def wipeE (env : Env) : List Nat → Env
  | [] => env
  | v :: vs => (wipeE env vs).set v none
def lcF (g : MG) (c : MB) (m : ME) (ws : List Nat) : List D → List D → Env → R (List D)
  | [], acc, env => .ok acc env
  | d :: ds, acc, env => match g d env with
    | none => .no
    | some e => (c e).bind0 fun b e => if b then (m e).bind0 fun y e => if acc.length < sizeLine then lcF g c m ws ds (acc ++ [y]) (wipeE e ws) else .no
      else lcF g c m ws ds acc (wipeE e ws)
def eLc (it : MI) (g : MG) (c : MB) (m : ME) (ws : List Nat) : ME := fun env => (it env).bind fun ds e => (lcF g c m ws ds [] (wipeE e ws)).bind0 fun r e => .ok (.lst true r) e
def bYes : MB := fun env => .ok true env
theorem rb_yes : RefB N true tYes bYes := fun env σ Z H F Q o r w => w Z H F (Ext.refl o) r fun _ => Same.refl _
theorem wipe_get {σ : L2.St} : ∀ {ws : List Nat} {i : Nat}, i ∉ ws → (wipe σ ws)[i]? = σ[i]?
  | [], i, _ => rfl
  | w :: ws, i, h => by
    rw [List.mem_cons, not_or] at h
    rw [wipe, List.getElem?_set_ne (Ne.symm h.1), wipe_get h.2]
theorem RdE.other : ∀ {env : Env} {σ σ' : L2.St} {F : List Addr}, RdE C Z H env σ F → σ'.length = σ.length → (∀ i : Nat, ((env[i]?).join).isSome → σ'[i]? = σ[i]?) → RdE C Z H env σ' F
  | [], σ, σ', F, h, l, _ => by
    obtain ⟨rfl, rfl⟩ := h
    exact ⟨List.eq_nil_of_length_eq_zero l, rfl⟩
  | none :: e, σ, σ', F, h, l, k => by
    obtain ⟨x, s, rfl, h⟩ := h
    cases σ' with
    | nil => simp at l
    | cons y s' => exact ⟨y, s', rfl, RdE.other h (by simpa using l) fun i hi => by simpa using k (i + 1) (by simpa using hi)⟩
  | some d :: e, σ, σ', F, h, l, k => by
    obtain ⟨v, s, F1, F2, rfl, rfl, rv, h⟩ := h
    cases σ' with
    | nil => simp at l
    | cons y s' =>
      have : y = some v := by simpa using k 0 rfl
      subst this
      exact ⟨v, s', F1, F2, rfl, rfl, rv, RdE.other h (by simpa using l) fun i hi => by simpa using k (i + 1) (by simpa using hi)⟩
theorem RdE.wipe' : ∀ {ws : List Nat} {env : Env} {σ : L2.St} {F : List Addr}, RdE C Z H env σ F → ∃ F2, F2.Sublist F ∧ RdE C Z H (wipeE env ws) σ F2
  | [], env, σ, F, h => ⟨F, List.Sublist.refl _, h⟩
  | w :: ws, env, σ, F, h => by
    obtain ⟨F2, h1, h2⟩ := RdE.wipe' (ws := ws) h
    obtain ⟨F3, h3, h4⟩ := h2.drop w
    exact ⟨F3, h3.trans h1, h4⟩
theorem wipeE_none : ∀ {ws : List Nat} {env : Env} {i : Nat}, i ∈ ws → ¬ (((wipeE env ws)[i]?).join).isSome
  | w :: ws, env, i, h => by
    rw [wipeE]
    by_cases q : w = i
    · subst q
      rw [List.getElem?_set]
      rw [if_pos rfl]
      split <;> simp
    · rw [List.getElem?_set_ne q]
      exact wipeE_none ((List.mem_cons.mp h).resolve_left (Ne.symm q))
theorem wipe_len {σ : L2.St} : ∀ ws : List Nat, (wipe σ ws).length = σ.length
  | [] => rfl
  | w :: ws => by rw [wipe, List.length_set, wipe_len ws]
theorem wipe_eq {σ σ2 : L2.St} {ws : List Nat} (l : σ2.length = σ.length) (h : ∀ i, i ∉ ws → σ2[i]? = σ[i]?) : wipe σ2 ws = wipe σ ws := by
  refine List.ext_getElem? fun i => ?_
  by_cases q : i ∈ ws
  · have key : ∀ (τ : L2.St), (wipe τ ws)[i]? = if i < τ.length then some none else none := by
      intro τ
      induction ws with
      | nil => cases q
      | cons w ws ih =>
        rw [wipe]
        by_cases e : w = i
        · subst e
          rw [List.getElem?_set, if_pos rfl, wipe_len]
        · rw [List.getElem?_set_ne e]
          have q2 : i ∈ ws := (List.mem_cons.mp q).resolve_left (Ne.symm e)
          clear ih h
          induction ws with
          | nil => cases q2
          | cons w2 ws ih2 =>
            rw [wipe]
            by_cases e2 : w2 = i
            · subst e2
              rw [List.getElem?_set, if_pos rfl, wipe_len]
            · rw [List.getElem?_set_ne e2]
              exact ih2 (by simp [(List.mem_cons.mp q2).resolve_left (Ne.symm e2)]) ((List.mem_cons.mp q2).resolve_left (Ne.symm e2))
    rw [key, key, l]
  · rw [wipe_get q, wipe_get q, h i q]
/-- a name that no claim stands for may change -/
theorem RdE.wiped {ws : List Nat} {env : Env} {τ : L2.St} (h : RdE C Z H (wipeE env ws) σ F) (l : τ.length = σ.length) (e : ∀ i, i ∉ ws → τ[i]? = σ[i]?) : RdE C Z H (wipeE env ws) τ F :=
  h.other l fun i hi => e i fun z => wipeE_none z hi
theorem RdL.snoc : ∀ {ds : List D} {vs : List V} {F1 F2 : List Addr} {d : D} {v : V}, RdL C Z H ds vs F1 → RdV C Z H d v F2 → RdL C Z H (ds ++ [d]) (vs ++ [v]) (F1 ++ F2)
  | [], _, _, F2, d, v, h, r => by
    rw [RdL] at h
    obtain ⟨rfl, rfl⟩ := h
    exact ⟨v, [], F2, [], rfl, by simp, r, rfl, rfl⟩
  | e :: ds, _, _, F2, d, v, h, r => by
    rw [RdL] at h
    obtain ⟨u, r', G1, G2, rfl, rfl, h1, h2⟩ := h
    exact ⟨u, r' ++ [v], G1, G2 ++ F2, rfl, by simp, h1, RdL.snoc h2 r⟩
theorem RdV.mut {a : Addr} {o : HO} {d : D} {v : V} (h : RdV C Z H d v F) (n : a ∉ F) : RdV C Z (upd H a o) d v F :=
  RdV.mono (Same.refl _) d v F (fun b hb => upd_ne fun z : b = a => n (by rw [← z]; exact hb)) h
theorem RdL.mut {a : Addr} {o : HO} {d : List D} {v : List V} (h : RdL C Z H d v F) (n : a ∉ F) : RdL C Z (upd H a o) d v F :=
  RdL.mono (Same.refl _) d v F (fun b hb => upd_ne fun z : b = a => n (by rw [← z]; exact hb)) h
theorem RdE.mut {a : Addr} {o : HO} {env : Env} (h : RdE C Z H env σ F) (n : a ∉ F) : RdE C Z (upd H a o) env σ F :=
  RdE.mono (Same.refl _) (fun b hb => upd_ne fun z : b = a => n (by rw [← z]; exact hb)) h
theorem Ext.heldL {ds : List D} {vs : List V} (x : Ext C.T Z H F Z' H' F') (hd : ∀ a ∈ G, a ∉ F) (r : RdL C Z H ds vs G) : RdL C Z' H' ds vs G := by
  refine RdL.mono x.zz ds vs G (fun a ha => ?_) r
  obtain ⟨o, e, hn⟩ := RdL.nk ds vs G r a ha
  rw [x.keep a o e (hd a ha) hn.tb, e]
theorem Ext.at {a : Addr} {o : HO} (x : Ext Ω Z H F Z' H' F') (n : a ∉ F) (h : H a = some o) (nt : ∀ ps, o ≠ .tbl ps := by intro ps z; cases z) : H' a = some o := x.keep a o h n nt
def Cn.calm (N : Cn) : Cn := { N with px := none }
theorem Wp.calm {α : Type} {r : R α} {k : α → Env → Prop} (w : ∃ a e, r = .ok a e ∧ k a e) : Wp N σ Z H F r k := by
  obtain ⟨a, e, rfl, h⟩ := w
  exact h
theorem bind0_ok {α β : Type} {r : R α} {f : α → Env → R β} {b : β} {e : Env} (h : r.bind0 f = .ok b e) : ∃ a e1, r = .ok a e1 ∧ f a e1 = .ok b e := by
  cases r with
  | ok a e1 => exact ⟨a, e1, rfl, h⟩
  | ex => cases h
  | no => cases h
theorem re_lc {s1 s2 : Bool} {ws : List Nat} {wi : TI} {it : MI} {g : TG} {mg : MG} {tt : TT} {c : MB} {te : TE} {m : ME} (hi : RefI N wi it) (hg : RefG N.calm ws g mg) (hc : RefB N.calm s1 tt c) (he : RefE N.calm s2 te m) :
    RefE N false (tLc wi g tt te ws) (eLc it mg c m ws) := fun env σ Z H F Q o r w => by
  refine hi env σ Z H F _ o r (w.bind.mono (Pin.refl _ _) (Ext.refl o) ?_)
  intro ds env1 k J Z1 H1 F1 x1 r1 wk Dn hD
  cases hfin : lcF mg c m ws ds [] (wipeE env1 ws) with
  | ex => rw [hfin] at k; exact k.elim
  | no => rw [hfin] at k; exact k.elim
  | ok res envF =>
  rw [hfin] at k
  obtain ⟨F2, sF2, rF2⟩ := r1.wipe' (ws := ws)
  have xn := Ext.new (o := .lst []) x1.ok hD
  have x2 : Ext N.C.T Z1 H1 F1 Z1 (upd H1 Dn (.lst [])) ((Dn :: ([] : List Addr)) ++ F2) := xn.sub (by
    refine List.nodup_cons.mpr ⟨fun z => ?_, sF2.nodup x1.ok.nd⟩
    exact (List.nodup_cons.mp xn.ok.nd).1 (sF2.mem z)) fun a ha => by
      rcases List.mem_cons.mp ha with rfl | ha
      · exact List.mem_cons_self ..
      · exact List.mem_cons_of_mem _ (sF2.mem ha)
  refine lc_it wk (fun i H2 => ∃ e2 Z2 F2 acc vs Fa, Ext N.C.T Z1 H1 F1 Z2 H2 ((Dn :: Fa) ++ F2) ∧ RdE N.C Z2 H2 (wipeE e2 ws) (wipe σ ws) F2 ∧ H2 Dn = some (.lst vs) ∧ RdL N.C Z2 H2 acc vs Fa ∧
      lcF mg c m ws (ds.drop i) acc (wipeE e2 ws) = .ok res envF) ?_ ?_ ?_ ?_
  · refine ⟨env1, Z1, F2, [], [], [], x2, ?_, upd_same, ⟨rfl, rfl⟩, by simpa using hfin⟩
    refine RdE.wiped (σ := σ) ?_ (wipe_len ws) (fun i hi => wipe_get hi)
    exact rF2.same (Same.refl _) (same_new hD)
  · rintro i H2 _ ⟨e2, Z2, F2, acc, vs, Fa, x2, _⟩
    exact x2.zz.trans x2.ok.zh
  · rintro i xv H2 H3 hlt ⟨e2, Z2, F2, acc, vs, Fa, x2, r2, hDn, ra, hf⟩ y
    obtain ⟨d, Z3, ed, x3, rv, r3, _⟩ := y.state x2.zz x2.ok.split r2
    have hl : i < ds.length := hlt
    have e3 : ds.drop i = d :: ds.drop (i + 1) := by
      rw [List.drop_eq_getElem_cons hl]
      congr 1
      rw [List.getElem?_eq_getElem hl] at ed
      exact Option.some.inj ed
    rw [e3, lcF] at hf
    cases q : mg d (wipeE e2 ws) with
    | none => rw [q] at hf; cases hf
    | some env3 =>
      rw [q] at hf
      obtain ⟨b, env4, hb, hf⟩ := bind0_ok hf
      have y3 := x3.hold x2.ok
      refine hg (wipeE e2 ws) (wipe σ ws) Z3 H3 F2 [] d xv _ env3 (by have := x3.ok; rw [List.nil_append]; exact this) r3 rv q fun σ4 F4 h1 h2 h3 h4 => ⟨?_, ?_⟩
      · rw [wipe_eq (σ := wipe σ ws) h3.1 h3.2]
        exact wipe_eq (wipe_len ws) (fun i hi => wipe_get hi)
      have o4 : Ok N.C.T Z3 H3 ((Dn :: Fa) ++ F4) := y3.ok.sub (by
        refine List.nodup_append.mpr ⟨nodup_left y3.ok.nd, h1, fun a ha b hb e => ?_⟩
        subst e
        exact y3.ok.disj a ha (by simpa using h2 a hb)) fun a ha => by
          rcases List.mem_append.mp ha with z | z
          · exact List.mem_append_left _ z
          · exact List.mem_append_right _ (by simpa using h2 a z)
      have x4 : Ext N.C.T Z2 H2 ((Dn :: Fa) ++ F2) Z3 H3 ((Dn :: Fa) ++ F4) := y3.sub o4.nd fun a ha => by
        rcases List.mem_append.mp ha with z | z
        · exact List.mem_append_left _ z
        · exact List.mem_append_right _ (by simpa using h2 a z)
      refine hc env3 σ4 Z3 H3 F4 _ o4.split h4 (Wp.calm ⟨b, env4, hb, ?_⟩)
      intro Z5 H5 F5 x5 r5 _
      have y5 := x5.hold o4
      have D3 : H3 Dn = some (.lst vs) := x3.at (x2.ok.disj Dn (List.mem_cons_self ..)) hDn
      have D5 : H5 Dn = some (.lst vs) := x5.at (o4.disj Dn (List.mem_cons_self ..)) D3
      have ra3 : RdL N.C Z3 H3 acc vs Fa := x3.heldL (fun a ha => x2.ok.disj a (List.mem_cons_of_mem _ ha)) ra
      have ra5 : RdL N.C Z5 H5 acc vs Fa := x5.heldL (fun a ha => o4.disj a (List.mem_cons_of_mem _ ha)) ra3
      have rlen : ∀ {σx : L2.St}, σx.length = (wipe σ ws).length → (∀ i, i ∉ ws → σx[i]? = (wipe σ ws)[i]?) → True := fun _ _ => trivial
      cases b with
      | false =>
        rw [if_neg Bool.false_ne_true] at hf ⊢
        obtain ⟨F6, s6, r6⟩ := r5.wipe' (ws := ws)
        refine ⟨env4, Z5, F6, acc, vs, Fa, ?_, r6.wiped h3.1.symm (fun i hi => (h3.2 i hi).symm), D5, ra5, hf⟩
        refine ((x2.trans x4).trans y5).sub (List.nodup_append.mpr ⟨nodup_left y5.ok.nd, s6.nodup (nodup_right y5.ok.nd), fun a ha b hb e => ?_⟩) fun a ha => ?_
        · subst e
          exact y5.ok.disj a ha (s6.mem hb)
        · rcases List.mem_append.mp ha with z | z
          · exact List.mem_append_left _ z
          · exact List.mem_append_right _ (s6.mem z)
      | true =>
        rw [if_pos rfl] at hf ⊢
        obtain ⟨dy, env6, hy, hf⟩ := bind0_ok hf
        by_cases hz : acc.length < sizeLine
        · rw [if_pos hz] at hf
          refine he env4 σ4 Z5 H5 F5 _ y5.ok.split r5 (Wp.calm ⟨dy, env6, hy, ?_⟩)
          intro yv Z6 H6 Fy F6 x6 ry r6 _
          have y6 : Ext N.C.T Z5 H5 ((Dn :: Fa) ++ F5) Z6 H6 ((Dn :: Fa) ++ (Fy ++ F6)) := x6.hold y5.ok
          have D6 : H6 Dn = some (.lst vs) := x6.at (y5.ok.disj Dn (List.mem_cons_self ..)) D5
          have ra6 : RdL N.C Z6 H6 acc vs Fa := x6.heldL (fun a ha => y5.ok.disj a (List.mem_cons_of_mem _ ha)) ra5
          refine ⟨vs, D6, by rw [← ra6.length]; exact hz, ?_⟩
          obtain ⟨F7, s7, r7⟩ := r6.wipe' (ws := ws)
          have nd6 := y6.ok.nd
          have hDm : Dn ∈ (Dn :: Fa) ++ (Fy ++ F6) := by simp
          have x7 := Ext.mut (o := .lst (vs ++ [yv])) y6.ok hDm
          have hn : Dn ∉ Fa ∧ Dn ∉ Fy ∧ Dn ∉ F6 := by
            simp only [List.cons_append, List.nodup_cons, List.mem_append, not_or] at nd6
            exact ⟨nd6.1.1, nd6.1.2.1, nd6.1.2.2⟩
          refine ⟨env6, Z6, F7, acc ++ [dy], vs ++ [yv], Fa ++ Fy, ?_, ?_, upd_same, RdL.snoc (ra6.mut hn.1) (ry.mut hn.2.1), hf⟩
          · refine (((x2.trans x4).trans y5).trans (y6.trans x7)).sub ?_ fun a ha => ?_
            · simp only [List.cons_append, List.nodup_cons, List.mem_append, not_or, List.append_assoc] at nd6 ⊢
              refine ⟨⟨hn.1, hn.2.1, fun z => hn.2.2 (s7.mem z)⟩, ?_⟩
              have n2 := nd6.2
              refine List.nodup_append.mpr ⟨nodup_left n2, List.nodup_append.mpr ⟨nodup_left (nodup_right n2), s7.nodup (nodup_right (nodup_right n2)), fun a ha b hb e => ?_⟩, fun a ha b hb e => ?_⟩
              · subst e
                exact (List.nodup_append.mp (nodup_right n2)).2.2 a ha a (s7.mem hb) rfl
              · subst e
                refine (List.nodup_append.mp n2).2.2 a ha a ?_ rfl
                rcases List.mem_append.mp hb with z | z
                · exact List.mem_append_left _ z
                · exact List.mem_append_right _ (s7.mem z)
            · simp only [List.cons_append, List.mem_cons, List.mem_append] at ha ⊢
              rcases ha with z | (z | z) | z
              · exact .inl z
              · exact .inr (.inl z)
              · exact .inr (.inr (.inl z))
              · exact .inr (.inr (.inr (s7.mem z)))
          · exact RdE.mut (r7.wiped h3.1.symm (fun i hi => (h3.2 i hi).symm)) fun z => hn.2.2 (s7.mem z)
        · rw [if_neg hz] at hf; cases hf
  · rintro H2 ⟨e2, Z2, F2, acc, vs, Fa, x2, r2, hDn, ra, hf⟩
    rw [List.drop_length, lcF] at hf
    cases hf
    refine k (.ref Dn) Z2 H2 (Dn :: Fa) F2 (x1.trans x2) ?_ (r2.wiped (wipe_len ws).symm (fun i hi => (wipe_get hi).symm)) fun z => by cases z
    rw [RdV]
    exact ⟨Dn, vs, Fa, rfl, hDn, rfl, ra⟩
end
end Mi
set_option maxHeartbeats 4000000
namespace Mi
open PySem PySem.Spec PyProof.Rows L2 RZ Ov
/-! ### what a def promises by its mirror -/
inductive Rf where
  | ok (d : D) (io : List D)
  | ex (x : Exn) (io : List D)
  | no
abbrev Fun := List D → Rf
def pick {α : Type} : List Bool → List α → List α
  | true :: ms, v :: vs => v :: pick ms vs
  | false :: ms, _ :: vs => pick ms vs
  | _, _ => []
def spM (C : Ct) (xc : Bool) (io : List Bool) (f : Fun) : Sp := fun vs H Q E => ∃ ds Z F, vs.length = io.length ∧ RdL C Z H ds vs F ∧ Ok C.T Z H F ∧
  match f ds with
  | .ok d ios => ∀ v Z' H' Fv Fi, Ext C.T Z H F Z' H' (Fv ++ Fi) → RdV C Z' H' d v Fv → RdL C Z' H' ios (pick io vs) Fi → Q v H'
  | .ex x ios => xc = true ∧ ∀ a Ca Z' H' Fi us, Ext C.T Z H F Z' H' Fi → C.cls x.c = some Ca → H' a = some (.xd us) → RdF C Z' H' x.fs us [] → RdL C Z' H' ios (pick io vs) Fi → E (.ref Ca) (some a) H'
  | .no => False
/-- the values of names, none of them forgotten -/
def allS : Env → Option (List D)
  | [] => some []
  | some d :: r => (allS r).map (d :: ·)
  | none :: _ => none
/-- a def from its body: n further names -/
def fnOf (n : Nat) (io : List Bool) (m : MS) : Fun := fun ds =>
  match m (ds.map some ++ List.replicate n none) with
  | .ok (.rt d) env => (match allS (pick io env) with | some ios => .ok d ios | none => .no)
  | .ok .nx env => (match allS (pick io env) with | some ios => .ok .non ios | none => .no)
  | .ok _ _ => .no
  | .ex x env => (match allS (pick io env) with | some ios => .ex x ios | none => .no)
  | .no => .no
def pinOf : List Bool → Nat → List Nat
  | [], _ => []
  | true :: r, i => i :: pinOf r (i + 1)
  | false :: r, i => pinOf r (i + 1)
section
variable {N : Cn} {C : Ct} {Z H Z' H' Z1 H1 : Hp} {F F' G Fv F1 : List Addr} {σ σ1 : L2.St}
theorem RdE.ofL : ∀ {ds : List D} {vs : List V} {F : List Addr} {n : Nat}, RdL C Z H ds vs F → RdE C Z H (ds.map some ++ List.replicate n none) (vs.map some ++ List.replicate n none) F
  | [], _, F, n, h => by
    rw [RdL] at h
    obtain ⟨rfl, rfl⟩ := h
    induction n with
    | zero => exact ⟨rfl, rfl⟩
    | succ n ih => exact ⟨none, _, rfl, ih⟩
  | d :: ds, _, F, n, h => by
    rw [RdL] at h
    obtain ⟨v, r, F1, F2, rfl, rfl, h1, h2⟩ := h
    exact ⟨v, _, F1, F2, rfl, rfl, h1, RdE.ofL h2⟩
/-- the arguments that come back -/
theorem RdE.pick : ∀ {io : List Bool} {env : Env} {σ : L2.St} {F : List Addr} {ios : List D} {vs : List V}, RdE C Z H env σ F → allS (pick io env) = some ios → io.length ≤ env.length →
    pick io (σ.take io.length) = (pick io vs).map some → vs.length = io.length → ∃ F2, F2.Sublist F ∧ RdL C Z H ios (Mi.pick io vs) F2
  | [], env, σ, F, ios, vs, h, e, l, p, hv => by
    obtain rfl : [] = ios := by cases env <;> (simp [Mi.pick, allS] at e; exact e.symm)
    cases vs <;> exact ⟨[], List.nil_sublist _, by simp [Mi.pick, RdL]⟩
  | b :: io, [], σ, F, ios, vs, h, e, l, p, hv => by simp at l
  | b :: io, x :: env, σ, F, ios, [], h, e, l, p, hv => by simp at hv
  | false :: io, x :: env, σ, F, ios, v :: vs, h, e, l, p, hv => by
    cases x with
    | none =>
      obtain ⟨y, s, rfl, h⟩ := h
      obtain ⟨F2, s2, r2⟩ := RdE.pick (io := io) (vs := vs) h (by simpa [Mi.pick] using e) (by simpa using l) (by simpa [Mi.pick] using p) (by simpa using hv)
      exact ⟨F2, s2, by simpa [Mi.pick] using r2⟩
    | some d =>
      obtain ⟨y, s, G1, G2, rfl, rfl, _, h⟩ := h
      obtain ⟨F2, s2, r2⟩ := RdE.pick (io := io) (vs := vs) h (by simpa [Mi.pick] using e) (by simpa using l) (by simpa [Mi.pick] using p) (by simpa using hv)
      exact ⟨F2, s2.trans (List.sublist_append_right ..), by simpa [Mi.pick] using r2⟩
  | true :: io, x :: env, σ, F, ios, v :: vs, h, e, l, p, hv => by
    cases x with
    | none => simp [Mi.pick, allS] at e
    | some d =>
      obtain ⟨y, s, G1, G2, rfl, rfl, rv, h⟩ := h
      simp only [Mi.pick, allS, Option.map_eq_some_iff] at e
      obtain ⟨ios', e, rfl⟩ := e
      have p' : some y = some v ∧ Mi.pick io (s.take io.length) = (Mi.pick io vs).map some := by simpa [Mi.pick] using p
      obtain ⟨F2, s2, r2⟩ := RdE.pick (io := io) (vs := vs) h e (by simpa using l) p'.2 (by simpa using hv)
      refine ⟨G1 ++ F2, List.Sublist.append_left s2 G1, ?_⟩
      rw [Mi.pick, RdL]
      exact ⟨v, _, G1, F2, rfl, rfl, by rw [← Option.some.inj p'.1]; exact rv, r2⟩
theorem pick_pin : ∀ {io : List Bool} {vs : List V} {σ' : L2.St} {k : Nat} {pre : L2.St} {post : L2.St}, vs.length = io.length → pre.length = k → (∀ i ∈ pinOf io k, σ'[i]? = (pre ++ (vs.map some ++ post))[i]?) →
    k + io.length ≤ σ'.length → Mi.pick io ((σ'.drop k).take io.length) = (Mi.pick io vs).map some
  | [], vs, σ', k, pre, post, h, hk, e, l => by cases vs <;> simp [Mi.pick]
  | b :: io, [], σ', k, pre, post, h, hk, e, l => by simp at h
  | b :: io, v :: vs, σ', k, pre, post, h, hk, e, l => by
    have hlt : k < σ'.length := by simp at l; omega
    have ed : σ'.drop k = σ'[k] :: σ'.drop (k + 1) := List.drop_eq_getElem_cons hlt
    have ih := pick_pin (io := io) (vs := vs) (σ' := σ') (k := k + 1) (pre := pre ++ [some v]) (post := post) (by simpa using h) (by simp [hk]) (fun i hi => by
      rw [e i (by cases b <;> simp [pinOf, hi])]
      simp) (by simp at l; omega)
    rw [ed]
    cases b with
    | false =>
      simp only [List.take_succ_cons, List.length_cons, Mi.pick]
      exact ih
    | true =>
      have e0 := e k (by simp [pinOf])
      rw [List.getElem?_eq_getElem hlt, List.getElem?_append_right (by omega), hk, Nat.sub_self] at e0
      have e1 : σ'[k] = some v := by simpa using e0
      simp only [List.take_succ_cons, List.length_cons, Mi.pick, List.map_cons, e1]
      rw [ih]
/-- a body keeps its mirror's promise -/
theorem body_M {P : Program} {w : World} {K : PySem.W.Frag} {mg : Str → Option Value} {base : Heap} {k : Nat} {qual : Str} {st : Stmt} {f : Addr} {Ns : List Str} {io : List Bool} {cls : String → Option Addr} {m : MS} {n : Nat}
    (hn : Ns.length = io.length + n)
    (h : ∀ (cdv : Value) (A : Around) (outer : List PySem.Env) (s : Shared) (H : Hp) (E : XK), Rm k (A.deeper (envOfC qual (defScope st) s.heap.objs.size f cdv)) →
      ∃ t, PSs (cxOf CX0 P w K mg base Ns qual (defScope st) f cdv A outer s H E).nox (defBody st) t ∧ RefS ⟨⟨K, cls, P, w, Ω⟩, none, pinOf io 0⟩ t m) :
    Body P w K mg base k qual st f Ns (spM ⟨K, cls, P, w, Ω⟩ false io (fnOf n io m)) := by
  intro cdv A outer s H vs Q E hr hs
  obtain ⟨t, ht, hm⟩ := h cdv A outer s H E hr
  refine ⟨t, ht, ?_⟩
  obtain ⟨ds, Z, F, hl, rl, o, hf⟩ := hs
  have hst : L2.start Ns vs = vs.map some ++ List.replicate n none := by
    unfold L2.start
    rw [hn, hl, Nat.add_sub_cancel_left]
  rw [hst]
  refine hm (ds.map some ++ List.replicate n none) _ Z H F _ o (RdE.ofL rl) ?_
  have fin : ∀ {env : Env} {σ' : L2.St} {Z' H' : Hp} {F' : List Addr} {ios : List D}, Pin (pinOf io 0) (vs.map some ++ List.replicate n none) σ' → RdE ⟨K, cls, P, w, Ω⟩ Z' H' env σ' F' → allS (pick io env) = some ios →
      ∃ F2, F2.Sublist F' ∧ RdL ⟨K, cls, P, w, Ω⟩ Z' H' ios (pick io vs) F2 := by
    intro env σ' Z' H' F' ios p r e
    have le : env.length = vs.length + n := by rw [r.length, p.1]; simp
    have l1 : io.length ≤ env.length := by rw [le]; omega
    refine RdE.pick r e l1 ?_ hl
    have := pick_pin (io := io) (vs := vs) (σ' := σ') (k := 0) (pre := []) (post := List.replicate n none) hl rfl (fun i hi => by simpa using p.2 i hi) (by rw [← r.length]; omega)
    simpa using this
  unfold fnOf at hf
  cases q : m (ds.map some ++ List.replicate n none) with
  | no => rw [q] at hf; exact hf.elim
  | ex x env =>
    rw [q] at hf
    cases e : allS (pick io env) with
    | none => simp only [e] at hf
    | some ios =>
      simp only [e] at hf
      exact absurd hf.1 Bool.false_ne_true
  | ok fl env =>
    rw [q] at hf
    cases fl with
    | bk => exact hf.elim
    | ct => exact hf.elim
    | nx =>
      intro σ' Z' H' F' p x r
      cases e : allS (pick io env) with
      | none => simp only [e] at hf
      | some ios =>
        simp only [e] at hf
        obtain ⟨F2, s2, r2⟩ := fin p r e
        exact hf .non Z' H' [] F2 (x.sub (s2.nodup x.ok.nd) fun a ha => s2.mem ha) rd_non r2
    | rt d =>
      intro σ' v Z' H' Fv F' p x rv r
      cases e : allS (pick io env) with
      | none => simp only [e] at hf
      | some ios =>
        simp only [e] at hf
        obtain ⟨F2, s2, r2⟩ := fin p r e
        refine hf v Z' H' Fv F2 (x.sub (List.nodup_append.mpr ⟨nodup_left x.ok.nd, s2.nodup (nodup_right x.ok.nd), fun a ha b hb e => ?_⟩) fun a ha => ?_) rv r2
        · subst e
          exact x.ok.disj a ha (s2.mem hb)
        · rcases List.mem_append.mp ha with z | z
          · exact List.mem_append_left _ z
          · exact List.mem_append_right _ (s2.mem z)
/-! ### calls -/
/-- an argument: a value, or a name whose owned value the callee may change -/
inductive Arg where
  | e (m : ME)
  | io (j : Nat)
def eArgs : List Arg → Env → R (List (Option D))
  | [], env => .ok [] env
  | .e m :: as, env => (m env).bind fun d e => (eArgs as e).bind fun r e => .ok (some d :: r) e
  | .io j :: as, env => match env[j]? with
    | some (some _) => (eArgs as env).bind fun r e => .ok (none :: r) e
    | _ => .no
def RdM (C : Ct) (Z H : Hp) (σ : L2.St) : List Arg → List (Option D) → List V → List Addr → Prop
  | [], ms, vs, F => ms = [] ∧ vs = [] ∧ F = []
  | .e _ :: as, ms, vs, F => ∃ d r v s F1 F2, ms = some d :: r ∧ vs = v :: s ∧ F = F1 ++ F2 ∧ RdV C Z H d v F1 ∧ RdM C Z H σ as r s F2
  | .io j :: as, ms, vs, F => ∃ r v s, ms = none :: r ∧ vs = v :: s ∧ σ[j]? = some (some v) ∧ RdM C Z H σ as r s F
def RefM (N : Cn) (st : Bool) (t : TA) (as : List Arg) : Prop := ∀ env σ Z H F Q, Ok N.C.T Z H F → RdE N.C Z H env σ F →
  Wp N σ Z H F (eArgs as env) (fun ms env' => ∀ vs Z' H' Fv F', Ext N.C.T Z H F Z' H' (Fv ++ F') → RdM N.C Z' H' σ as ms vs Fv → RdE N.C Z' H' env' σ F' → (st = true → Same H H') → Q vs H') → t σ H Q
theorem rm_nil : RefM N true tNil [] := fun env σ Z H F Q o r w => w [] Z H [] F (Ext.refl o) ⟨rfl, rfl, rfl⟩ r (fun _ => Same.refl _)
theorem rm_e {s1 s2 : Bool} {t : TE} {u : TA} {m : ME} {as : List Arg} (h : RefE N s1 t m) (hs : RefM N s2 u as) : RefM N (s1 && s2) (tCons t u) (.e m :: as) := fun env σ Z H F Q o r w => by
  refine h env σ Z H F _ o r (w.bind.mono (Pin.refl _ _) (Ext.refl o) ?_)
  intro d env1 k v Z1 H1 Fv F1 x1 rv r1 sm1
  have o1 : Ok N.C.T Z1 H1 F1 := x1.ok.split
  refine hs env1 σ Z1 H1 F1 _ o1 r1 ((Wp.bind (k.mono (Pin.refl _ _) x1.right fun _ _ z => z)).mono (Pin.refl _ _) (Ext.refl o1) ?_)
  intro ds env2 k2 vs Z2 H2 Fvs F2 x2 rvs r2 sm2
  have y := x2.hold x1.ok
  refine k2 (v :: vs) Z2 H2 (Fv ++ Fvs) F2 ?_ ?_ r2 (fun z => ?_)
  · rw [List.append_assoc]; exact x1.trans y
  · exact ⟨d, ds, v, vs, Fv, Fvs, rfl, rfl, rfl, x2.held (x1.ok.disj) rv, rvs⟩
  · rw [Bool.and_eq_true] at z; exact (sm1 z.1).trans (sm2 z.2)
theorem rm_io {s2 : Bool} {j : Nat} {u : TA} {as : List Arg} (hs : RefM N s2 u as) : RefM N s2 (tCons (tVar j) u) (.io j :: as) := fun env σ Z H F Q o r w => by
  rw [eArgs] at w
  split at w
  · rename_i d e
    obtain ⟨v, F1, F2, h1, h2, h3, h4⟩ := r.take e
    refine ⟨v, h1, hs env σ Z H F _ o r (w.bind.mono (Pin.refl _ _) (Ext.refl o) ?_)⟩
    intro ds env2 k2 vs Z2 H2 Fvs F2 x2 rvs r2 sm2
    exact k2 (v :: vs) Z2 H2 Fvs F2 x2 ⟨ds, v, vs, rfl, rfl, h1, rvs⟩ r2 sm2
  · exact w.elim
/-- the arguments, the names taken out -/
def fillA : List Arg → List (Option D) → Env → Option (List D × Env)
  | [], _, env => some ([], env)
  | .e _ :: as, some d :: ms, env => (fillA as ms env).map fun r => (d :: r.1, r.2)
  | .io j :: as, _ :: ms, env => match env[j]? with
    | some (some d) => (fillA as ms (env.set j none)).map fun r => (d :: r.1, r.2)
    | _ => none
  | _, _, _ => none
/-- .. and given back -/
def backA : List Arg → List D → Env → Option Env
  | [], [], env => some env
  | .e _ :: as, ios, env => backA as ios env
  | .io j :: as, d :: ios, env => backA as ios (env.set j (some d))
  | _, _, _ => none
def ioOf : List Arg → List Bool
  | [] => []
  | .e _ :: as => false :: ioOf as
  | .io _ :: as => true :: ioOf as
theorem fillA_ok : ∀ {as : List Arg} {ms : List (Option D)} {vs : List V} {env env2 : Env} {ds : List D} {Fv F : List Addr}, RdM C Z H σ as ms vs Fv → RdE C Z H env σ F → fillA as ms env = some (ds, env2) →
    ∃ Fa Fr, RdL C Z H ds vs Fa ∧ RdE C Z H env2 σ Fr ∧ (Fv ++ F).Perm (Fa ++ Fr)
  | [], ms, vs, env, env2, ds, Fv, F, h, r, e => by
    obtain ⟨rfl, rfl, rfl⟩ := h
    cases e
    exact ⟨[], F, ⟨rfl, rfl⟩, r, List.Perm.refl _⟩
  | .e m :: as, ms, vs, env, env2, ds, Fv, F, h, r, e => by
    obtain ⟨d, ms', v, s, F1, F2, rfl, rfl, rfl, rv, h⟩ := h
    rw [fillA, Option.map_eq_some_iff] at e
    obtain ⟨⟨ds', env'⟩, e, q⟩ := e
    cases q
    obtain ⟨Fa, Fr, h1, h2, h3⟩ := fillA_ok h r e
    refine ⟨F1 ++ Fa, Fr, ⟨v, s, F1, Fa, rfl, rfl, rv, h1⟩, h2, ?_⟩
    rw [List.append_assoc, List.append_assoc]
    exact List.Perm.append_left F1 h3
  | .io j :: as, ms, vs, env, env2, ds, Fv, F, h, r, e => by
    obtain ⟨ms', v, s, rfl, rfl, hv, h⟩ := h
    rw [fillA] at e
    split at e
    · rename_i d ed
      obtain ⟨v', G1, G2, g1, g2, g3, g4⟩ := r.take ed
      rw [hv] at g1
      cases g1
      rw [Option.map_eq_some_iff] at e
      obtain ⟨⟨ds', env'⟩, e, q⟩ := e
      cases q
      obtain ⟨Fa, Fr, h1, h2, h3⟩ := fillA_ok h g4 e
      refine ⟨G1 ++ Fa, Fr, ⟨v, s, G1, Fa, rfl, rfl, g2, h1⟩, h2, ?_⟩
      refine (List.Perm.append_left Fv g3).trans ?_
      rw [← List.append_assoc, List.append_assoc G1]
      refine (List.Perm.append_right G2 List.perm_append_comm).trans ?_
      rw [List.append_assoc]
      exact List.Perm.append_left G1 h3
    · cases e
theorem set_same {env : Env} {j : Nat} {v : V} (h : σ[j]? = some (some v)) : σ.set j (some v) = σ := by
  refine List.ext_getElem? fun i => ?_
  rw [List.getElem?_set]
  by_cases q : j = i
  · subst q
    rw [if_pos rfl, h]
    rcases Nat.lt_or_ge j σ.length with z | z
    · rw [if_pos z]
    · rw [List.getElem?_eq_none z] at h; cases h
  · rw [if_neg q]
theorem backA_ok : ∀ {as : List Arg} {ms : List (Option D)} {vs : List V} {env env2 : Env} {ios : List D} {Fv F Fi : List Addr} {Z0 H0 : Hp}, RdM C Z0 H0 σ as ms vs Fv → Ok C.T Z H (Fi ++ F) → RdE C Z H env σ F → RdL C Z H ios (pick (ioOf as) vs) Fi → backA as ios env = some env2 →
    ∃ F2, F2.Nodup ∧ (∀ a ∈ F2, a ∈ Fi ++ F) ∧ RdE C Z H env2 σ F2
  | [], ms, vs, env, env2, ios, Fv, F, Fi, Z0, H0, h, o, r, rl, e => by
    cases ios with
    | nil =>
      cases e
      exact ⟨F, nodup_right o.nd, fun a ha => List.mem_append_right _ ha, r⟩
    | cons => cases e
  | .e m :: as, ms, vs, env, env2, ios, Fv, F, Fi, Z0, H0, h, o, r, rl, e => by
    obtain ⟨d, ms', v, s, F1, F2, rfl, rfl, rfl, rv, h⟩ := h
    exact backA_ok h o r (by simpa [ioOf, pick] using rl) (by simpa [backA] using e)
  | .io j :: as, ms, vs, env, env2, ios, Fv, F, Fi, Z0, H0, h, o, r, rl, e => by
    obtain ⟨ms', v, s, rfl, rfl, hv, h⟩ := h
    cases ios with
    | nil => cases e
    | cons d ios =>
      rw [ioOf, pick, RdL] at rl
      obtain ⟨v', s', G1, G2, hh, rfl, rv, rl⟩ := rl
      cases hh
      have o1 : Ok C.T Z H (G1 ++ F) := o.sub (by
        refine List.nodup_append.mpr ⟨nodup_left (nodup_left o.nd), nodup_right o.nd, fun a ha b hb z => ?_⟩
        subst z
        exact o.disj a (List.mem_append_left _ ha) hb) fun a ha => by
          rcases List.mem_append.mp ha with z | z
          · exact List.mem_append_left _ (List.mem_append_left _ z)
          · exact List.mem_append_right _ z
      obtain ⟨F3, h1, h2, h3⟩ := rd_set (i := j) o1 r rv
      rw [set_same (env := env) hv] at h3
      have o2 : Ok C.T Z H (G2 ++ F3) := o.sub (by
        refine List.nodup_append.mpr ⟨nodup_right (nodup_left o.nd), h1, fun a ha b hb z => ?_⟩
        subst z
        rcases List.mem_append.mp (h2 a hb) with z | z
        · exact (List.nodup_append.mp (nodup_left o.nd)).2.2 a z a ha rfl
        · exact o.disj a (List.mem_append_right _ ha) z) fun a ha => by
          rcases List.mem_append.mp ha with z | z
          · exact List.mem_append_left _ (List.mem_append_right _ z)
          · rcases List.mem_append.mp (h2 a z) with z | z
            · exact List.mem_append_left _ (List.mem_append_left _ z)
            · exact List.mem_append_right _ z
      obtain ⟨F4, g1, g2, g3⟩ := backA_ok h o2 h3 rl (by simpa [backA] using e)
      refine ⟨F4, g1, fun a ha => ?_, g3⟩
      rcases List.mem_append.mp (g2 a ha) with z | z
      · exact List.mem_append_left _ (List.mem_append_right _ z)
      · rcases List.mem_append.mp (h2 a z) with z | z
        · exact List.mem_append_left _ (List.mem_append_left _ z)
        · exact List.mem_append_right _ z
/-- the call itself, the arguments reckoned -/
def callF (f : Fun) (as : List Arg) (ms : List (Option D)) (env : Env) : R D := match fillA as ms env with
  | none => .no
  | some (ds, e2) => match f ds with
    | .ok d ios => (match backA as ios e2 with | some e3 => .ok d e3 | none => .no)
    | .ex x ios => (match backA as ios e2 with | some e3 => .ex x e3 | none => .no)
    | .no => .no
def eCall (f : Fun) (as : List Arg) : ME := fun env => (eArgs as env).bind fun ms e => callF f as ms e
def WE' (N : Cn) (xc : Bool) (σ : L2.St) (E : XK) : Prop := match N.px with
  | none => True
  | some W => xc = true ∧ ∀ cls d H, W cls d σ H → E cls d H
theorem RdM.vlen : ∀ {as : List Arg} {ms : List (Option D)} {vs : List V} {Fv : List Addr}, RdM C Z H σ as ms vs Fv → vs.length = (ioOf as).length
  | [], _, _, _, h => by rw [h.2.1]; rfl
  | .e m :: as, _, _, _, h => by
    obtain ⟨d, ms', v, s, F1, F2, rfl, rfl, rfl, rv, h⟩ := h
    simp [ioOf, h.vlen]
  | .io j :: as, _, _, _, h => by
    obtain ⟨ms', v, s, rfl, rfl, hv, h⟩ := h
    simp [ioOf, h.vlen]
theorem call_core {f : Fun} {as : List Arg} {ms : List (Option D)} {vs : List V} {env : Env} {Q : VK} {E : XK} {Z0 H0 : Hp} {F0 : List Addr} {xc : Bool} (hx : WE' N xc σ E) (x : Ext N.C.T Z0 H0 F0 Z H (Fv ++ F)) (rm : RdM N.C Z H σ as ms vs Fv) (r : RdE N.C Z H env σ F)
    (w : Wp N σ Z0 H0 F0 (callF f as ms env) (fun d env' => ∀ v Z' H' Fv F', Ext N.C.T Z0 H0 F0 Z' H' (Fv ++ F') → RdV N.C Z' H' d v Fv → RdE N.C Z' H' env' σ F' → (false = true → Same H0 H') → Q v H')) :
    spM N.C xc (ioOf as) f vs H Q E := by
  unfold callF at w
  cases hf : fillA as ms env with
  | none => rw [hf] at w; exact w.elim
  | some p =>
  obtain ⟨ds, e2⟩ := p
  rw [hf] at w
  obtain ⟨Fa, Fr, ra, rr, pm⟩ := fillA_ok rm r hf
  have o1 : Ok N.C.T Z H (Fa ++ Fr) := x.ok.sub (pm.nodup_iff.mp x.ok.nd) (perm_mem pm)
  have oa : Ok N.C.T Z H Fa := o1.sub (nodup_left o1.nd) fun a ha => List.mem_append_left _ ha
  have x0 : Ext N.C.T Z0 H0 F0 Z H (Fa ++ Fr) := x.sub o1.nd (perm_mem pm)
  refine ⟨ds, Z, Fa, rm.vlen, ra, oa, ?_⟩
  have w : Wp N σ Z0 H0 F0 (match f ds with
    | .ok d ios => (match backA as ios e2 with | some e3 => R.ok d e3 | none => .no)
    | .ex x ios => (match backA as ios e2 with | some e3 => .ex x e3 | none => .no)
    | .no => .no) _ := w
  cases hfd : f ds with
  | no => rw [hfd] at w; exact w.elim
  | ok d ios =>
    rw [hfd] at w
    simp only at w ⊢
    cases hb : backA as ios e2 with
    | none => rw [hb] at w; exact w.elim
    | some e3 =>
      rw [hb] at w
      intro v Z' H' Fv' Fi x2 rv ri
      have y := x2.frame o1
      have rr' : RdE N.C Z' H' e2 σ Fr := x2.heldE (fun a ha z => o1.disj a z ha) rr
      have o2 : Ok N.C.T Z' H' (Fi ++ Fr) := y.ok.sub (by have := y.ok.nd; rw [List.append_assoc] at this; exact nodup_right this) fun a ha => by
        rw [List.append_assoc]; exact List.mem_append_right _ ha
      obtain ⟨F4, g1, g2, g3⟩ := backA_ok rm o2 rr' ri hb
      refine w v Z' H' Fv' F4 ((x0.trans y).sub ?_ ?_) rv g3 fun z => ?_
      · refine List.nodup_append.mpr ⟨?_, g1, fun a ha b hb z => ?_⟩
        · have := y.ok.nd; rw [List.append_assoc] at this; exact nodup_left this
        · subst z
          have := y.ok.nd
          rw [List.append_assoc] at this
          exact (List.nodup_append.mp this).2.2 a ha a (g2 a hb) rfl
      · intro a ha
        rw [List.append_assoc]
        rcases List.mem_append.mp ha with z | z
        · exact List.mem_append_left _ z
        · exact List.mem_append_right _ (g2 a z)
      · cases z
  | ex xx ios =>
    rw [hfd] at w
    simp only at w ⊢
    cases hb : backA as ios e2 with
    | none => rw [hb] at w; exact w.elim
    | some e3 =>
      rw [hb] at w
      refine ⟨?_, ?_⟩
      · have w : Wish N σ Z0 H0 F0 xx e3 := w
        unfold Wish at w
        unfold WE' at hx
        cases hp : N.px with
        | none => rw [hp] at w; exact w.elim
        | some W => rw [hp] at hx; exact hx.1
      intro a Ca Z' H' Fi us x2 hc ha hu ri
      have y := x2.frame o1
      have rr' : RdE N.C Z' H' e2 σ Fr := x2.heldE (fun a ha z => o1.disj a z ha) rr
      obtain ⟨F4, g1, g2, g3⟩ := backA_ok rm y.ok rr' ri hb
      have w : Wish N σ Z0 H0 F0 xx e3 := w
      unfold Wish at w
      unfold WE' at hx
      cases hp : N.px with
      | none => rw [hp] at w; exact w.elim
      | some W =>
        rw [hp] at w hx
        exact hx.2 _ _ _ (w σ a Ca Z' H' F4 us (Pin.refl _ _) ((x0.trans y).sub g1 g2) g3 hc ha hu)
theorem re_call {st xc : Bool} {f : Fun} {as : List Arg} {t : TA} {E : XK} {io : List Bool} (h : RefM N st t as) (hio : ioOf as = io) (hx : ∀ σ, WE' N xc σ E) : RefE N false (tCall (spM N.C xc io f) [] E t) (eCall f as) := fun env σ Z H F Q o r w => by
  subst hio
  refine h env σ Z H F _ o r (w.bind.mono (Pin.refl _ _) (Ext.refl o) ?_)
  intro ms env1 k vs Z1 H1 Fv F1 x rm r1 _
  rw [List.append_nil]
  exact call_core (hx σ) x rm r1 k
/-! ### methods -/
/-- an instance of c, m none of its fields -/
def recv (c m : String) : D → Bool
  | .ins _ c' fs => c' == c && fs.all fun p => !(p.1 == m)
  | _ => false
def eMeth (c m : String) (f : Fun) (a : Arg) (as : List Arg) : ME := fun env => match a with
  | .e me => (me env).bind fun d e => if recv c m d then (eArgs as e).bind fun ms e => callF f (a :: as) (some d :: ms) e else .no
  | .io j => match env[j]? with
    | some (some d) => if recv c m d then (eArgs as env).bind fun ms e => callF f (a :: as) (none :: ms) e else .no
    | _ => .no
theorem ofString_inj {a b : String} (h : PySem.Str.ofString a = PySem.Str.ofString b) : a = b := by
  rw [PySem.Str.ofString_eq_toList, PySem.Str.ofString_eq_toList] at h
  have h := congrArg PySem.Str.cps h
  have h : (a.toList.map Char.toNat).toArray = (b.toList.map Char.toNat).toArray := h
  have h : a.toList.map Char.toNat = b.toList.map Char.toNat := by simpa using h
  have h : a.toList = b.toList := by
    refine List.map_inj_right (f := Char.toNat) ?_ |>.mp h
    intro x y e
    exact Char.ext (UInt32.toNat_inj.mp e)
  exact String.toList_inj.mp h
theorem RdF.none : ∀ {fs : List (String × D)} {us : List (Str × V)} {F : List Addr} {m : String}, RdF C Z H fs us F → (fs.all fun p => !(p.1 == m)) = true → us.lookup (PySem.Str.ofString m) = none
  | [], us, F, m, h, _ => by rw [RdF] at h; rw [h.1]; rfl
  | (k, d) :: fs, us, F, m, h, e => by
    rw [RdF] at h
    obtain ⟨v, s, F1, F2, rfl, rfl, _, h⟩ := h
    rw [List.all_cons, Bool.and_eq_true] at e
    have hk : (PySem.Str.ofString m == PySem.Str.ofString k) = false := beq_eq_false_iff_ne.mpr fun z => by
      have := ofString_inj z
      subst this
      simp at e
    rw [List.lookup, hk]
    exact RdF.none h e.2
theorem RdF.get : ∀ {fs : List (String × D)} {us : List (Str × V)} {F : List Addr} {f : String} {d : D}, RdF C Z H fs us F → fs.lookup f = some d → ∃ v F1 F2, us.lookup (PySem.Str.ofString f) = some v ∧ RdV C Z H d v F1 ∧ F.Perm (F1 ++ F2)
  | [], us, F, m, d, h, e => by cases e
  | (k, d0) :: fs, us, F, f, d, h, e => by
    rw [RdF] at h
    obtain ⟨v, s, F1, F2, rfl, rfl, rv, h⟩ := h
    rw [List.lookup] at e
    by_cases q : f = k
    · subst q
      rw [beq_self_eq_true] at e
      cases e
      exact ⟨v, F1, F2, by rw [List.lookup, beq_self_eq_true], rv, List.Perm.refl _⟩
    · have q1 : (f == k) = false := beq_eq_false_iff_ne.mpr q
      rw [q1] at e
      obtain ⟨v', G1, G2, h1, h2, h3⟩ := RdF.get h e
      have q2 : (PySem.Str.ofString f == PySem.Str.ofString k) = false := beq_eq_false_iff_ne.mpr fun z => q (ofString_inj z)
      refine ⟨v', G1, F1 ++ G2, by rw [List.lookup, q2]; exact h1, h2, ?_⟩
      refine (List.Perm.append_left F1 h3).trans ?_
      rw [← List.append_assoc, ← List.append_assoc]
      exact List.Perm.append_right G2 List.perm_append_comm
/-! ### a new instance -/
def callN (c : String) (f : Fun) (as : List Arg) (ms : List (Option D)) (env : Env) : R D := match fillA as ms env with
  | none => .no
  | some (ds, e2) => match f (.ins true c [] :: ds) with
    | .ok .non (self :: ios) => (match backA as ios e2 with | some e3 => .ok self e3 | none => .no)
    | .ex x (_ :: ios) => (match backA as ios e2 with | some e3 => .ex x e3 | none => .no)
    | _ => .no
def eNew (c : String) (f : Fun) (as : List Arg) : ME := fun env => (eArgs as env).bind fun ms e => callN c f as ms e
end
end Mi
set_option maxHeartbeats 4000000
namespace Mi
open PySem PySem.Spec PyProof.Rows L2 RZ Ov
section
variable {N : Cn} {C : Ct} {Z H Z' H' : Hp} {F F' G Fv : List Addr} {σ : L2.St}
/-! ### lists of frozen things -/
theorem RdL.cons0 {d : D} {ds : List D} {v : V} {vs : List V} (h : RdV C Z H d v []) (t : RdL C Z H ds vs []) : RdL C Z H (d :: ds) (v :: vs) [] := by
  rw [RdL]; exact ⟨v, vs, [], [], rfl, rfl, h, t⟩
theorem RdL.nil0 : RdL C Z H [] [] [] := by rw [RdL]; exact ⟨rfl, rfl⟩
theorem RdL.inv0 {d : D} {ds : List D} {vs : List V} (h : RdL C Z H (d :: ds) vs []) : ∃ v r, vs = v :: r ∧ RdV C Z H d v [] ∧ RdL C Z H ds r [] := by
  rw [RdL] at h
  obtain ⟨v, r, F1, F2, h1, h2, h3, h4⟩ := h
  obtain ⟨rfl, rfl⟩ : F1 = [] ∧ F2 = [] := by simpa using h2.symm
  exact ⟨v, r, h1, h3, h4⟩
theorem RdL.app0 : ∀ {ds es : List D} {vs us : List V}, RdL C Z H ds vs [] → RdL C Z H es us [] → RdL C Z H (ds ++ es) (vs ++ us) []
  | [], es, vs, us, h, h2 => by rw [RdL] at h; rw [h.1]; exact h2
  | d :: ds, es, vs, us, h, h2 => by
    obtain ⟨v, r, rfl, h3, h4⟩ := h.inv0
    exact RdL.cons0 h3 (RdL.app0 h4 h2)
theorem RdL.rep0 {ds : List D} {vs : List V} (h : RdL C Z H ds vs []) : ∀ n : Nat, RdL C Z H (List.replicate n ds).flatten (List.replicate n vs).flatten []
  | 0 => RdL.nil0
  | n + 1 => by
    rw [List.replicate_succ, List.replicate_succ, List.flatten_cons, List.flatten_cons]
    exact RdL.app0 h (RdL.rep0 h n)
/-- .. by place -/
theorem RdL.at : ∀ {ds : List D} {vs : List V} {F : List Addr} {i : Nat} {d : D}, RdL C Z H ds vs F → ds[i]? = some d → ∃ v F1, vs[i]? = some v ∧ RdV C Z H d v F1
  | [], _, _, i, d, _, e => by simp at e
  | d0 :: ds, _, _, 0, d, h, e => by
    rw [RdL] at h
    obtain ⟨v, r, F1, F2, rfl, _, h3, _⟩ := h
    cases e
    exact ⟨v, F1, rfl, h3⟩
  | d0 :: ds, _, _, i + 1, d, h, e => by
    rw [RdL] at h
    obtain ⟨v, r, F1, F2, rfl, _, _, h4⟩ := h
    obtain ⟨v', F', h1, h2⟩ := RdL.at h4 (show ds[i]? = some d from e)
    exact ⟨v', F', h1, h2⟩
theorem RdL.atI {ds : List D} {vs : List V} {i : Int} {d : D} (h : RdL C Z H ds vs F) (e : L2.atI ds i = some d) : ∃ v F1, L2.atI vs i = some v ∧ RdV C Z H d v F1 := by
  unfold L2.atI at e ⊢
  rw [← h.length]
  cases q : ixN ds.length i with
  | none => rw [q] at e; cases e
  | some j =>
    rw [q] at e
    obtain ⟨v, F1, h1, h2⟩ := RdL.at h (show ds[j]? = some d from e)
    exact ⟨v, F1, h1, h2⟩
/-! ### what is read as a list or a tuple -/
/-- the items of a list -/
def lstD : D → Option (List D)
  | .lst _ ds => some ds
  | .scr ds => some ds
  | _ => none
theorem RdV.lstD {d : D} {v : V} {ds : List D} (zh : Same Z H) (h : RdV C Z H d v F) (e : Mi.lstD d = some ds) : ∃ a vs G, v = .ref a ∧ SqL C.K H a vs ∧ RdL C Z H ds vs G := by
  cases d with
  | lst o xs =>
    cases e
    cases o with
    | false =>
      rw [RdV] at h
      obtain ⟨_, a, vs, h1, h2, h3⟩ := h
      exact ⟨a, vs, [], h1, sqL_of (zh _ _ h2), h3⟩
    | true =>
      rw [RdV] at h
      obtain ⟨a, vs, G, h1, h2, _, h3⟩ := h
      exact ⟨a, vs, G, h1, sqL_of h2, h3⟩
  | scr xs =>
    cases e
    rw [RdV] at h
    obtain ⟨_, a, vs, h1, h2, h3⟩ := h
    exact ⟨a, vs, [], h1, zh.seq h2, h3⟩
  | _ => cases e
/-- .. that stands for itself -/
theorem RdV.lstP {o : Bool} {v : V} {ds : List D} (zh : Same Z H) (h : RdV C Z H (.lst o ds) v F) : ∃ a vs G, v = .ref a ∧ H a = some (.lst vs) ∧ RdL C Z H ds vs G := by
  cases o with
  | false =>
    rw [RdV] at h
    obtain ⟨_, a, vs, h1, h2, h3⟩ := h
    exact ⟨a, vs, [], h1, zh _ _ h2, h3⟩
  | true =>
    rw [RdV] at h
    obtain ⟨a, vs, G, h1, h2, _, h3⟩ := h
    exact ⟨a, vs, G, h1, h2, h3⟩
theorem RdV.tupP {v : V} {ds : List D} (zh : Same Z H) (h : RdV C Z H (.tup ds) v F) : F = [] ∧ ∃ a vs, v = .ref a ∧ SqT C.K H a vs ∧ RdL C Z H ds vs [] := by
  rw [RdV] at h
  obtain ⟨h0, a, vs, h1, h2, h3⟩ := h
  exact ⟨h0, a, vs, h1, Same.seqT zh h2, h3⟩
theorem RdL.nof {ds : List D} {vs : List V} (z : Mi.fznL ds = true) (h : RdL C Z H ds vs F) : RdL C Z H ds vs [] := by
  have := RdL.fznL ds vs F z h
  subst this
  exact h
theorem RdV.intI {i : Int} {v : V} (h : RdV C Z H (.int i) v F) : v = .int i := by rw [RdV] at h; exact h.1
theorem RdV.strI {i : Str} {v : V} (h : RdV C Z H (.str i) v F) : v = .str i := by rw [RdV] at h; exact h.1
theorem RdV.blI {i : Bool} {v : V} (h : RdV C Z H (.bl i) v F) : v = .bl i := by rw [RdV] at h; exact h.1
theorem RdV.nonI {v : V} (h : RdV C Z H .non v F) : v = .non := by rw [RdV] at h; exact h.1
/-! ### new things -/
theorem post_lst {ds : List D} {vs : List V} {p : Addr} {Q : VK} (o : Ok C.T Z H F) (P : Post C Z H F (.lst true ds) Q) (hp : H p = none) (r : RdL C Z H ds vs []) : Q (.ref p) (upd H p (.lst vs)) := by
  refine P (.ref p) Z _ [p] (Ext.new o hp) ?_ (same_new hp)
  rw [RdV]
  exact ⟨p, vs, [], rfl, upd_same, rfl, r.same (Same.refl _) (same_new hp)⟩
theorem post_tup {ds : List D} {vs : List V} {p : Addr} {Q : VK} (o : Ok C.T Z H F) (P : Post C Z H F (.tup ds) Q) (hp : H p = none) (r : RdL C Z H ds vs []) : Q (.ref p) (upd H p (.tup vs)) := by
  refine P (.ref p) (upd Z p (.tup vs)) _ [] (Ext.newZ o hp) ?_ (same_new hp)
  rw [RdV]
  exact ⟨rfl, p, vs, rfl, sqT_of upd_same, r.frozen (same_new (o.zh.free hp)) _⟩
/-! ### operators -/
def mulOk (i j : Int) : Bool := decide (i.natAbs.log2 + j.natAbs.log2 < 1000000)
def fAdd : D → D → Option D
  | .int a, .int b => some (.int (a + b))
  | .str a, .str b => if a.length + b.length ≤ sizeLine then some (.str (a ++ b)) else none
  | .tup a, .tup b => if a.length + b.length ≤ sizeLine then some (.tup (a ++ b)) else none
  | .lst _ a, .lst _ b => if a.length + b.length ≤ sizeLine ∧ fznL a = true ∧ fznL b = true then some (.lst true (a ++ b)) else none
  | _, _ => none
def rAddU (K : PySem.W.Frag) : R2 := fun x y H Q => ((rI0 fun i j => .int (i + j)) x y H Q ∨ (∃ i j, x = .str i ∧ y = .str j ∧ i.length + j.length ≤ sizeLine ∧ Q (.str (i ++ j)) H)) ∨ (rCatA K x y H Q ∨ rCat x y H Q)
theorem o_add {X : Cx} (K : PySem.W.Frag) (h : X.K = K := by rfl) : OpR X (binaryOp .Add) (rAddU K) := by
  subst h
  exact OpR.or (OpR.or op_add op_add_str) (OpR.or op_catA op_cat)
theorem f_add : Fn2 C (rAddU C.K) fAdd := by
  intro d v Fd d' v' Fd' Z H F Q e o rd rd' hf p
  unfold fAdd at hf
  split at hf
  · cases hf
    rw [RdV] at rd rd'
    rw [rd.1, rd'.1]
    exact .inl (.inl ⟨_, _, rfl, rfl, post_val o p rd_int⟩)
  · split at hf
    · rename_i q
      cases hf
      rw [RdV] at rd rd'
      rw [rd.1, rd'.1]
      exact .inl (.inr ⟨_, _, rfl, rfl, q, post_val o p rd_str⟩)
    · cases hf
  · rename_i a b
    split at hf
    · rename_i q
      cases hf
      obtain ⟨_, x, vs, rfl, h1, h2⟩ := rd.tupP o.zh
      obtain ⟨_, y, us, rfl, g1, g2⟩ := rd'.tupP o.zh
      refine .inr (.inl ⟨x, y, vs, us, rfl, rfl, h1, g1, by rw [← h2.length, ← g2.length]; exact q, ?_, ?_, ?_⟩)
      · intro e
        refine post_val o p ?_
        have : a = [] := List.eq_nil_of_length_eq_zero (by rw [h2.length, e]; rfl)
        rw [this]
        rw [RdV] at rd' ⊢
        exact ⟨rfl, rd'.2⟩
      · intro _ e
        refine post_val o p ?_
        have : b = [] := List.eq_nil_of_length_eq_zero (by rw [g2.length, e]; rfl)
        rw [this, List.append_nil]
        rw [RdV] at rd ⊢
        exact ⟨rfl, rd.2⟩
      · intro _ _ pp hp
        exact post_tup o p hp (h2.app0 g2)
    · cases hf
  · rename_i oa a ob b
    split at hf
    · rename_i q
      cases hf
      obtain ⟨x, vs, G1, rfl, h1, h2⟩ := rd.lstP o.zh
      obtain ⟨y, us, G2, rfl, g1, g2⟩ := rd'.lstP o.zh
      refine .inr (.inr ⟨x, y, vs, us, rfl, rfl, h1, g1, by rw [← h2.length, ← g2.length]; exact q.1, fun pp hp => ?_⟩)
      exact post_lst o p hp ((h2.nof q.2.1).app0 (g2.nof q.2.2))
    · cases hf
  · cases hf
/-- two ints -/
def fI2 (g : Int → Int → Option D) : D → D → Option D
  | .int a, .int b => g a b
  | _, _ => none
theorem f_i2 {r : R2} {g : Int → Int → Option D} (h : ∀ a b e Q H, g a b = some e → (∀ v, (∀ Z H, RdV C Z H e v []) → Q v H) → r (.int a) (.int b) H Q) : Fn2 C r (fI2 g) := by
  intro d v Fd d' v' Fd' Z H F Q e o rd rd' hf p
  unfold fI2 at hf
  split at hf
  · rw [RdV] at rd rd'
    rw [rd.1, rd'.1]
    exact h _ _ e Q H hf fun v hv => post_val o p (hv Z H)
  · cases hf
def fSub := fI2 fun a b => some (.int (a - b))
def fMod := fI2 fun a b => if 0 < b then some (.int (a % b)) else none
theorem f_mod : Fn2 C (rI (fun _ j => 0 < j) fun i j => .int (i % j)) fMod := f_i2 fun a b e Q H h k => by
  split at h
  · cases h; exact ⟨a, b, rfl, rfl, ‹_›, k _ fun _ _ => rd_int⟩
  · cases h
def fDiv := fI2 fun a b => if 0 < b ∧ b.natAbs.log2 < 9000 then some (.int (a / b)) else none
theorem f_div : Fn2 C (rI CDivW fun i j => .int (i / j)) fDiv := f_i2 fun a b e Q H h k => by
  split at h
  · cases h; exact ⟨a, b, rfl, rfl, ‹_›, k _ fun _ _ => rd_int⟩
  · cases h
def fPow := fI2 fun a b => if 0 ≤ b ∧ b ≤ 1000000 ∧ a.natAbs < 2 ^ 64 then some (.int (a ^ b.toNat)) else none
theorem f_pow : Fn2 C (rI CPow fun i j => .int (i ^ j.toNat)) fPow := f_i2 fun a b e Q H h k => by
  split at h
  · cases h; exact ⟨a, b, rfl, rfl, ‹_›, k _ fun _ _ => rd_int⟩
  · cases h
def fLt := fI2 fun a b => some (.bl (decide (a < b)))
theorem f_lt : Fn2 C (rI0 fun i j => .bl (decide (i < j))) fLt := f_i2 fun a b e Q H h k => by cases h; exact ⟨a, b, rfl, rfl, k _ fun _ _ => rd_bl⟩
def fLe := fI2 fun a b => some (.bl (decide (a ≤ b)))
def fGt := fI2 fun a b => some (.bl (decide (b < a)))
theorem f_gt : Fn2 C (rI0 fun i j => .bl (decide (j < i))) fGt := f_i2 fun a b e Q H h k => by cases h; exact ⟨a, b, rfl, rfl, k _ fun _ _ => rd_bl⟩
def fGe := fI2 fun a b => some (.bl (decide (b ≤ a)))
theorem f_ge : Fn2 C (rI0 fun i j => .bl (decide (j ≤ i))) fGe := f_i2 fun a b e Q H h k => by cases h; exact ⟨a, b, rfl, rfl, k _ fun _ _ => rd_bl⟩
/-- times: numbers, a list, a tuple, a text -/
def fMul : D → D → Option D
  | .int a, .int b => if mulOk a b then some (.int (a * b)) else none
  | .lst _ a, .int k => if -(2 ^ 63) ≤ k ∧ k < 2 ^ 63 ∧ a.length * k.toNat ≤ sizeLine ∧ fznL a = true then some (.lst true (List.replicate k.toNat a).flatten) else none
  | .str a, .int k => if -1000 ≤ k ∧ k ≤ 1000 ∧ a.length ≤ 1000 then some (.str (Txt.mul a k)) else none
  | .tup a, .int k => if a ≠ [] ∧ 2 ≤ k ∧ k ≤ 1000 ∧ a.length ≤ 1000 then some (.tup (List.replicate k.toNat a).flatten) else none
  | _, _ => none
def rMulS : R2 := fun x y H Q => ∃ (a : Str) (k : Int), x = .str a ∧ y = .int k ∧ -1000 ≤ k ∧ k ≤ 1000 ∧ a.length ≤ 1000 ∧ Q (.str (Txt.mul a k)) H
theorem op_mulS {X : Cx} : OpR X (binaryOp .Mult) rMulS := by
  intro pins s σ H x y v u Q I rx ry h
  obtain ⟨a, k, rfl, rfl, h1, h2, h3, q⟩ := h
  obtain ⟨t, rfl⟩ := rx
  obtain ⟨t', rfl⟩ := ry
  have hm : MulOk a k := by
    refine ⟨?_, ?_, ?_⟩
    · rw [Bool.or_eq_false_iff]
      exact ⟨decide_eq_false (by omega), decide_eq_false (by omega)⟩
    · intro g _ hc
      have h4 : (2 ^ 63 - 1 : Int) / k ≥ (2 ^ 63 - 1 : Int) / 1000 := by
        have hk : 0 < k := by omega
        rw [ge_iff_le, Int.le_ediv_iff_mul_le hk]
        have : (2 ^ 63 - 1 : Int) / 1000 * k ≤ (2 ^ 63 - 1 : Int) / 1000 * 1000 := Int.mul_le_mul_of_nonneg_left h2 (by decide)
        exact Int.le_trans this (by decide)
      have : (1000 : Int) ≤ (2 ^ 63 - 1 : Int) / 1000 := by decide
      omega
    · intro _ _
      unfold Builtin.Str.tooLong
      refine decide_eq_false ?_
      have : a.length * k.toNat ≤ 1000 * 1000 := Nat.mul_le_mul h3 (by omega)
      have : (1000 * 1000 : Nat) < sizeLine := by decide
      omega
  exact SB.mul hm fun t2 k2 => ⟨.str _, H, I.tok _, ⟨_, rfl⟩, q⟩
def rMulU (K : PySem.W.Frag) : R2 := fun x y H Q => ((rI CMulW fun i j => .int (i * j)) x y H Q ∨ rRep x y H Q) ∨ (rMulS x y H Q ∨ rRepT K x y H Q)
theorem o_mul {X : Cx} (K : PySem.W.Frag) (h : X.K = K := by rfl) : OpR X (binaryOp .Mult) (rMulU K) := by
  subst h
  exact OpR.or (OpR.or op_mulW op_rep) (OpR.or op_mulS op_repT)
theorem f_mul : Fn2 C (rMulU C.K) fMul := by
  intro d v Fd d' v' Fd' Z H F Q e o rd rd' hf p
  unfold fMul at hf
  split at hf
  · split at hf
    · rename_i q
      cases hf
      rw [RdV] at rd rd'
      rw [rd.1, rd'.1]
      exact .inl (.inl ⟨_, _, rfl, rfl, by simpa [mulOk, CMulW] using q, post_val o p rd_int⟩)
    · cases hf
  · split at hf
    · rename_i q
      cases hf
      obtain ⟨x, vs, G1, rfl, h1, h2⟩ := rd.lstP o.zh
      rw [RdV] at rd'
      rw [rd'.1]
      exact .inl (.inr ⟨x, _, vs, rfl, rfl, h1, q.1, q.2.1, by rw [← h2.length]; exact q.2.2.1, fun pp hp => post_lst o p hp ((h2.nof q.2.2.2).rep0 _)⟩)
    · cases hf
  · split at hf
    · rename_i q
      cases hf
      exact .inr (.inl ⟨_, _, rd.strI, rd'.intI, q.1, q.2.1, q.2.2, post_val o p rd_str⟩)
    · cases hf
  · split at hf
    · rename_i q
      cases hf
      obtain ⟨_, x, vs, rfl, h1, h2⟩ := rd.tupP o.zh
      rw [RdV] at rd'
      rw [rd'.1]
      refine .inr (.inr ⟨x, _, vs, rfl, rfl, h1, fun z => q.1 (List.eq_nil_of_length_eq_zero (by rw [h2.length, z]; rfl)), q.2.1, q.2.2.1, by rw [← h2.length]; exact q.2.2.2, fun pp hp => post_tup o p hp (h2.rep0 _)⟩)
    · cases hf
  · cases hf
/-! ### data: ==, repr -/
mutual
def toPy : D → Option PyData
  | .non => some .none
  | .bl b => some (.bool b)
  | .int i => some (.int i)
  | .str x => some (.str x)
  | .tup ds => (toPyL ds).map .tuple
  | .lst _ ds => (toPyL ds).map .list
  | .scr ds => (toPyL ds).map .list
  | _ => none
def toPyL : List D → Option (List PyData)
  | [] => some []
  | d :: ds => (toPy d).bind fun p => (toPyL ds).map (p :: ·)
end
mutual
theorem RdV.dp (zh : Same Z H) : ∀ (d : D) (v : V) (F : List Addr) (p : PyData), toPy d = some p → RdV C Z H d v F → Dp C.K H v p
  | .non, v, F, p, e, h => by rw [toPy] at e; cases e; rw [RdV] at h; rw [h.1]; exact .non
  | .bl b, v, F, p, e, h => by rw [toPy] at e; cases e; rw [RdV] at h; rw [h.1]; exact .bl b
  | .int b, v, F, p, e, h => by rw [toPy] at e; cases e; rw [RdV] at h; rw [h.1]; exact .int b
  | .str b, v, F, p, e, h => by rw [toPy] at e; cases e; rw [RdV] at h; rw [h.1]; exact .str b
  | .tup ds, v, F, p, e, h => by
    rw [toPy, Option.map_eq_some_iff] at e
    obtain ⟨ps, e, rfl⟩ := e
    obtain ⟨_, a, vs, rfl, h1, h2⟩ := h.tupP zh
    exact .tup h1 (RdL.dp zh ds vs [] ps e h2)
  | .lst o ds, v, F, p, e, h => by
    rw [toPy, Option.map_eq_some_iff] at e
    obtain ⟨ps, e, rfl⟩ := e
    obtain ⟨a, vs, G, rfl, h1, h2⟩ := h.lstD zh rfl
    exact .lst h1 (RdL.dp zh ds vs G ps e h2)
  | .scr ds, v, F, p, e, h => by
    rw [toPy, Option.map_eq_some_iff] at e
    obtain ⟨ps, e, rfl⟩ := e
    obtain ⟨a, vs, G, rfl, h1, h2⟩ := h.lstD zh rfl
    exact .lst h1 (RdL.dp zh ds vs G ps e h2)
  | .dct _ _, v, F, p, e, h => by rw [toPy] at e <;> first | cases e | (intros; contradiction)
  | .ins _ _ _, v, F, p, e, h => by rw [toPy] at e <;> first | cases e | (intros; contradiction)
  | .set _, v, F, p, e, h => by rw [toPy] at e <;> first | cases e | (intros; contradiction)
  | .exn _ _, v, F, p, e, h => by rw [toPy] at e <;> first | cases e | (intros; contradiction)
  | .fnc _ _ _ _ _, v, F, p, e, h => by rw [toPy] at e <;> first | cases e | (intros; contradiction)
  | .dcg _ _, v, F, p, e, h => by rw [toPy] at e <;> first | cases e | (intros; contradiction)
theorem RdL.dp (zh : Same Z H) : ∀ (ds : List D) (vs : List V) (F : List Addr) (ps : List PyData), toPyL ds = some ps → RdL C Z H ds vs F → DpAll C.K H vs ps
  | [], vs, F, ps, e, h => by rw [toPyL] at e; cases e; rw [RdL] at h; rw [h.1]; exact .nil
  | d :: ds, vs, F, ps, e, h => by
    rw [toPyL, Option.bind_eq_some_iff] at e
    obtain ⟨p, e1, e2⟩ := e
    rw [Option.map_eq_some_iff] at e2
    obtain ⟨qs, e2, rfl⟩ := e2
    rw [RdL] at h
    obtain ⟨v, r, F1, F2, rfl, _, h3, h4⟩ := h
    exact .cons (RdV.dp zh d v F1 p e1 h3) (RdL.dp zh ds r F2 qs e2 h4)
end
/-- == of data -/
def eqP (d e : D) : Option Bool := match toPy d, toPy e with
  | some p, some q => if SeqAt.shaped p && SeqAt.shaped q then some (PyData.eqv p q) else none
  | _, _ => none
def fEq (d e : D) : Option D := (eqP d e).map .bl
def fNe (d e : D) : Option D := (eqP d e).map fun b => .bl (!b)
theorem eqP_dp {d e : D} {b : Bool} (h : eqP d e = some b) : ∃ p q, toPy d = some p ∧ toPy e = some q ∧ SeqAt.shaped p = true ∧ SeqAt.shaped q = true ∧ b = PyData.eqv p q := by
  unfold eqP at h
  split at h
  · rename_i p q e1 e2
    split at h
    · rename_i k
      rw [Bool.and_eq_true] at k
      exact ⟨p, q, e1, e2, k.1, k.2, (Option.some.inj h).symm⟩
    · cases h
  · cases h
theorem f_eq : Fn2 C (rEqD C.K) fEq := by
  intro d v Fd d' v' Fd' Z H F Q e o rd rd' hf p
  unfold fEq at hf
  rw [Option.map_eq_some_iff] at hf
  obtain ⟨b, hb, rfl⟩ := hf
  obtain ⟨p1, p2, e1, e2, s1, s2, rfl⟩ := eqP_dp hb
  exact ⟨p1, p2, RdV.dp o.zh d v Fd p1 e1 rd, RdV.dp o.zh d' v' Fd' p2 e2 rd', s1, s2, post_val o p rd_bl⟩
theorem f_ne : Fn2 C (rNeD C.K) fNe := by
  intro d v Fd d' v' Fd' Z H F Q e o rd rd' hf p
  unfold fNe at hf
  rw [Option.map_eq_some_iff] at hf
  obtain ⟨b, hb, rfl⟩ := hf
  obtain ⟨p1, p2, e1, e2, s1, s2, rfl⟩ := eqP_dp hb
  exact ⟨p1, p2, RdV.dp o.zh d v Fd p1 e1 rd, RdV.dp o.zh d' v' Fd' p2 e2 rd', s1, s2, post_val o p rd_bl⟩
/-- is None; is True -/
def isNonD : D → Bool
  | .non => true
  | _ => false
def fIs : D → D → Option D
  | d, .non => some (.bl (isNonD d))
  | .bl a, .bl b => some (.bl (decide (a = b)))
  | _, _ => none
def fNis : D → D → Option D
  | d, .non => some (.bl (!isNonD d))
  | .bl a, .bl b => some (.bl (!decide (a = b)))
  | _, _ => none
end
end Mi
set_option maxHeartbeats 4000000
namespace Mi
open PySem PySem.Spec PyProof.Rows L2 RZ Ov
section
variable {N : Cn} {C : Ct} {Z H Z' H' : Hp} {F F' G Fv : List Addr} {σ : L2.St}
/-! ### flat values -/
def flatD : D → Bool
  | .non => true
  | .bl _ => true
  | .int _ => true
  | .str _ => true
  | _ => false
def eqF : D → D → Bool
  | .non, .non => true
  | .bl a, .bl b => a == b
  | .bl a, .int b => (if a then 1 else 0) == b
  | .int a, .bl b => a == (if b then 1 else 0)
  | .int a, .int b => a == b
  | .str a, .str b => a == b
  | _, _ => false
def vF : D → V
  | .bl b => .bl b
  | .int i => .int i
  | .str x => .str x
  | _ => .non
theorem RdV.flat {d : D} {v : V} (f : flatD d = true) (h : RdV C Z H d v F) : v = vF d ∧ flatV v = true := by
  cases d with
  | non => rw [h.nonI]; exact ⟨rfl, rfl⟩
  | bl b => rw [h.blI]; exact ⟨rfl, rfl⟩
  | int b => rw [h.intI]; exact ⟨rfl, rfl⟩
  | str b => rw [h.strI]; exact ⟨rfl, rfl⟩
  | _ => cases f
theorem eqV_vF {d e : D} (h : flatD d = true) (g : flatD e = true) : eqV (vF d) (vF e) = eqF d e := by
  cases d <;> cases e <;> first | rfl | (exact absurd h Bool.false_ne_true) | (exact absurd g Bool.false_ne_true)
theorem RdL.flat : ∀ {ds : List D} {vs : List V} {F : List Addr}, ds.all flatD = true → RdL C Z H ds vs F → vs = ds.map vF ∧ vs.all flatV = true
  | [], _, _, _, h => by rw [RdL] at h; rw [h.1]; exact ⟨rfl, rfl⟩
  | d :: ds, _, _, f, h => by
    rw [RdL] at h
    obtain ⟨v, r, F1, F2, rfl, _, h3, h4⟩ := h
    rw [List.all_cons, Bool.and_eq_true] at f
    obtain ⟨e1, e2⟩ := h3.flat f.1
    obtain ⟨e3, e4⟩ := RdL.flat f.2 h4
    exact ⟨by rw [e1, e3]; rfl, by rw [List.all_cons, e2, e4]; rfl⟩
def inF (d : D) (ds : List D) : Bool := ds.any fun y => eqF y d
theorem inV_vF {d : D} (f : flatD d = true) : ∀ {ds : List D}, ds.all flatD = true → inV (vF d) (ds.map vF) = inF d ds
  | [], _ => rfl
  | e :: ds, h => by
    rw [List.all_cons, Bool.and_eq_true] at h
    have := inV_vF f h.2
    unfold inV inF at this ⊢
    rw [List.map_cons, List.any_cons, List.any_cons, this, eqV_vF h.1 f]
/-! ### keys -/
def keyD : D → Option Key
  | .int i => some (.inl i)
  | .str x => some (.inr x)
  | _ => none
theorem kD_key {d : D} {k : Key} (h : keyD d = some k) : d = kD k := by
  cases d <;> cases h <;> rfl
theorem RdV.key {d : D} {v : V} {k : Key} (e : keyD d = some k) (h : RdV C Z H d v F) : v = kV k := by
  cases d with
  | int i => cases e; exact h.intI
  | str i => cases e; exact h.strI
  | _ => cases e
theorem eqF_kD {a b : Key} : eqF (kD a) (kD b) = decide (a = b) := by
  cases a <;> cases b <;> simp [kD, eqF, Bool.beq_eq_decide_eq]
def lookD (kvs : List (D × D)) (k : D) : Option D := (kvs.find? fun p => eqF p.1 k).map (·.2)
theorem RdK.val : ∀ {kvs : List (D × D)} {us : List (Key × V)} {F : List Addr} {k : Key}, RdK C Z H kvs us F →
    (lookD kvs (kD k) = none ∧ valV us k = none) ∨ ∃ d v F1, lookD kvs (kD k) = some d ∧ valV us k = some v ∧ RdV C Z H d v F1
  | [], _, _, k, h => by rw [RdK] at h; rw [h.1]; exact .inl ⟨rfl, rfl⟩
  | (q0, d0) :: kvs, _, _, k, h => by
    rw [RdK] at h
    obtain ⟨q, v, s, F1, F2, rfl, _, rfl, rv, h⟩ := h
    have ih := RdK.val (k := k) h
    unfold lookD valV at ih ⊢
    rw [List.find?_cons, List.find?_cons]
    simp only [eqF_kD]
    by_cases e : q = k
    · subst e
      simp only [decide_true]
      exact .inr ⟨d0, v, F1, rfl, rfl, rv⟩
    · simp only [decide_eq_false e]
      exact ih
/-! ### in -/
def fIn : D → D → Option D
  | d, .tup ds => if flatD d && ds.all flatD then some (.bl (inF d ds)) else none
  | d, .lst _ ds => if flatD d && ds.all flatD then some (.bl (inF d ds)) else none
  | d, .dct _ kvs => match keyD d with | some _ => some (.bl (lookD kvs d).isSome) | none => none
  | .str x, .str z => match x.cps.toList with | [c] => some (.bl (decide (c ∈ z.cps.toList))) | _ => none
  | _, _ => none
def rDIn (neg : Bool) : R2 := fun y x H Q => ∃ a o, x = .ref a ∧ DGet H a y o ∧ Q (.bl (if neg then !o.isSome else o.isSome)) H
theorem o_dIn {X : Cx} (hu : X.A.units + 64 < cLine) : OpR X (compareOp .In) (rDIn false) := by
  intro pins s σ H x y v u Q I rx ry h
  obtain ⟨a, o, rfl, g, q⟩ := h
  cases ry
  exact d_in (by omega) I g rx fun s3 I3 => ⟨.bl o.isSome, H, I3, rfl, q⟩
def rSignIn (neg : Bool) : R2 := fun x y H Q => ∃ (c : Nat) (z : Str), x = .str ⟨#[c]⟩ ∧ y = .str z ∧ Q (.bl (if neg then !decide (c ∈ z.cps.toList) else decide (c ∈ z.cps.toList))) H
def rInU (K : PySem.W.Frag) (neg : Bool) : R2 := fun x y H Q => rIn K neg x y H Q ∨ (rDIn neg x y H Q ∨ rSignIn neg x y H Q)
theorem o_in {X : Cx} (K : PySem.W.Frag) (hu : X.A.units + 64 < cLine) (h : X.K = K := by rfl) : OpR X (compareOp .In) (rInU K false) := by
  subst h
  exact OpR.or op_in_seq (OpR.or (o_dIn hu) op_in_sign)
theorem DGet.kd {a : Addr} {us : List (Key × V)} {k : Key} (e : H a = some (.dK us)) : DGet H a (kV k) (valV us k) := L2.DGet.k e
theorem RdV.dctP {o : Bool} {v : V} {kvs : List (D × D)} (zh : Same Z H) (h : RdV C Z H (.dct o kvs) v F) : ∃ a us G, v = .ref a ∧ H a = some (.dK us) ∧ RdK C Z H kvs us G := by
  cases o with
  | false =>
    rw [RdV] at h
    obtain ⟨_, a, vs, h1, h2, h3⟩ := h
    exact ⟨a, vs, [], h1, zh _ _ h2, h3⟩
  | true =>
    rw [RdV] at h
    obtain ⟨a, vs, G, h1, h2, _, h3⟩ := h
    exact ⟨a, vs, G, h1, h2, h3⟩
theorem in_core (neg : Bool) {d v Fd d' v' Fd' Q} {b : Bool} (o : Ok C.T Z H F) (rd : RdV C Z H d v Fd) (rd' : RdV C Z H d' v' Fd') (hf : fIn d d' = some (.bl b)) (q : Q (V.bl (if neg then !b else b)) H) : rInU C.K neg v v' H Q := by
  unfold fIn at hf
  split at hf
  · split at hf
    · rename_i ds k
      cases hf
      rw [Bool.and_eq_true] at k
      obtain ⟨_, a, vs, rfl, h1, h2⟩ := rd'.tupP o.zh
      obtain ⟨e1, e2⟩ := rd.flat k.1
      obtain ⟨e3, e4⟩ := h2.flat k.2
      refine .inl ⟨a, vs, rfl, .inr h1, e2, e4, ?_⟩
      rw [e1, e3, inV_vF k.1 k.2]
      exact q
    · cases hf
  · split at hf
    · rename_i ow ds k
      cases hf
      rw [Bool.and_eq_true] at k
      obtain ⟨a, vs, G, rfl, h1, h2⟩ := rd'.lstD o.zh rfl
      obtain ⟨e1, e2⟩ := rd.flat k.1
      obtain ⟨e3, e4⟩ := h2.flat k.2
      refine .inl ⟨a, vs, rfl, .inl h1, e2, e4, ?_⟩
      rw [e1, e3, inV_vF k.1 k.2]
      exact q
    · cases hf
  · split at hf
    · rename_i kvs dd k hk
      cases hf
      obtain ⟨a, us, G, rfl, h1, h2⟩ := rd'.dctP o.zh
      obtain rfl := kD_key hk
      have e1 := rd.key hk
      subst e1
      have e2 : (valV us k).isSome = (lookD kvs (kD k)).isSome := by
        rcases h2.val (k := k) with ⟨z1, z2⟩ | ⟨x, y, F1, z1, z2, _⟩
        · rw [z1, z2]; rfl
        · rw [z1, z2]; rfl
      refine .inr (.inl ⟨a, _, rfl, DGet.kd h1, ?_⟩)
      rw [e2]
      exact q
    · cases hf
  · split at hf
    · rename_i x z ls c hc
      cases hf
      have e1 := rd.strI
      have e2 := rd'.strI
      subst e1 e2
      have : x = ⟨#[c]⟩ := by
        cases x with
        | mk cps =>
          have : cps = #[c] := by
            have h : cps.toList = [c] := hc
            cases cps with
            | mk l => cases h; rfl
          rw [this]
      exact .inr (.inr ⟨c, z, by rw [this], rfl, q⟩)
    · cases hf
  · cases hf
theorem f_in : Fn2 C (rInU C.K false) fIn := by
  intro d v Fd d' v' Fd' Z H F Q e o rd rd' hf p
  have hb : ∃ b, e = .bl b := by
    unfold fIn at hf
    split at hf <;> (try split at hf) <;> first | (cases hf; exact ⟨_, rfl⟩) | cases hf
  obtain ⟨b, rfl⟩ := hb
  exact in_core false o rd rd' hf (post_val o p rd_bl)
/-! ### looks: nothing new in the heap -/
def Fn2T (C : Ct) (r : R2) (f : D → D → Option D) : Prop := ∀ d v Fd d' v' Fd' Z H F Q e, Ok C.T Z H F → RdV C Z H d v Fd → RdV C Z H d' v' Fd' → f d d' = some e → (∀ u Fe, RdV C Z H e u Fe → Q u H) → r v v' H Q
theorem rt_op {s1 : Bool} {r : R2} {f : D → D → Option D} {t u : TE} {m n : ME} (hf : Fn2T N.C r f) (h : RefT N s1 t m) (hu : RefT N true u n) : RefT N s1 (tOp r t u) (e2 f m n) := fun env σ Z H F Q o re w => by
  refine h env σ Z H F _ o re (w.bind.mono (Pin.refl _ _) (Ext.refl o) ?_)
  intro d env1 k v Z1 H1 Fd F1 x1 rd r1 sm1
  refine hu env1 σ Z1 H1 F1 _ x1.ok r1 ((Wp.bind (k.mono (Pin.refl _ _) x1 fun _ _ z => z)).mono (Pin.refl _ _) (Ext.refl x1.ok) ?_)
  intro d2 env2 k2 v2 Z2 H2 Fd2 F2 x2 rd2 r2 sm2
  obtain ⟨e, he⟩ := wp_lift k2
  rw [he] at k2
  exact hf d v Fd d2 v2 Fd2 Z2 H2 F2 Q e x2.ok (rd.same x2.zz (sm2 rfl)) rd2 he fun u Fe ru => k2 u Z2 H2 Fe F2 (x1.trans x2) ru r2 fun z => (sm1 z).trans (sm2 rfl)
def fIx : D → D → Option D
  | .tup ds, .int i => atI ds i
  | .lst _ ds, .int i => atI ds i
  | .scr ds, .int i => atI ds i
  | .str x, .int i => if x.length ≤ sizeLine then (atI x.cps.toList i).map fun c => .str ⟨#[c]⟩ else none
  | .dct _ kvs, k => match keyD k with | some _ => lookD kvs k | none => none
  | _, _ => none
def rDGetU : R2 := fun x y H Q => ∃ a v, x = .ref a ∧ DGet H a y (some v) ∧ Q v H
theorem ix_dict {X : Cx} (hu : X.A.units + 64 < cLine) : IxR X rDGetU := by
  intro value slice pins s σ H x y v u Q I rx ry q hs
  obtain ⟨a, w0, rfl, g, q⟩ := q
  cases rx
  have hT := dict_typeIs I g
  have main := d_getItem (A := X.A) (E := X.xe) (Q := EP X pins σ Q) (by omega) I g ry fun w' s3 I3 r3 => ⟨w0, H, I3, r3, q⟩
  have sub : wpAny (model X.prog X.w) X.A (subscripted slice false (.ref a) u) (fun r s₃ => wpAny (model X.prog X.w) X.A (letTemporaryGo value (.ref a) r >>= fun _ => pure r) (EP X pins σ Q) X.xe s₃) X.xe s := by
    rw [hs]
    exact wpAny_operating (wpAny_mono main (fun r s₃ h₃ => wpAny_bind (wpAny_letTemporaryGo (wpAny_pure h₃))) fun _ _ x => x)
  unfold subscriptTail
  refine wpAny_bind ?_
  rw [getitemInPython_of_ne hT.not_modules]
  refine wpAny_bind (wpAny_specialOf hT PySem.F.slot_dict_getitem.lookup ?_)
  first
    | exact wpAny_pure (wpAny_bind sub)
    | exact wpAny_pure (wpAny_pure (wpAny_bind sub))
    | exact wpAny_bind (wpAny_pure (wpAny_pure (wpAny_bind sub)))
def rIxU (K : PySem.W.Frag) : R2 := fun x y H Q => (rIxL K x y H Q ∨ rIxT K x y H Q) ∨ (rIxS x y H Q ∨ rDGetU x y H Q)
theorem o_ix {X : Cx} (K : PySem.W.Frag) (hu : X.A.units + 64 < cLine) (h : X.K = K := by rfl) : IxR X (rIxU K) := by
  subst h
  exact IxR.or (IxR.or ix_list ix_tup) (IxR.or ix_str (ix_dict hu))
theorem f_ix : Fn2T C (rIxU C.K) fIx := by
  intro d v Fd d' v' Fd' Z H F Q e o rd rd' hf p
  unfold fIx at hf
  split at hf
  · obtain ⟨_, a, vs, rfl, h1, h2⟩ := rd.tupP o.zh
    obtain ⟨u, Fe, e1, e2⟩ := h2.atI hf
    exact .inl (.inr ⟨a, vs, _, u, rfl, rd'.intI, h1, e1, p u Fe e2⟩)
  · obtain ⟨a, vs, G, rfl, h1, h2⟩ := rd.lstD o.zh rfl
    obtain ⟨u, Fe, e1, e2⟩ := h2.atI hf
    exact .inl (.inl ⟨a, vs, _, u, rfl, rd'.intI, h1, e1, p u Fe e2⟩)
  · obtain ⟨a, vs, G, rfl, h1, h2⟩ := rd.lstD o.zh rfl
    obtain ⟨u, Fe, e1, e2⟩ := h2.atI hf
    exact .inl (.inl ⟨a, vs, _, u, rfl, rd'.intI, h1, e1, p u Fe e2⟩)
  · split at hf
    · rename_i q
      rw [Option.map_eq_some_iff] at hf
      obtain ⟨c, hc, rfl⟩ := hf
      exact .inr (.inl ⟨_, _, c, rd.strI, rd'.intI, q, hc, p _ [] rd_str⟩)
    · cases hf
  · split at hf
    · rename_i ow kvs k q hq
      obtain ⟨a, us, G, rfl, h1, h2⟩ := rd.dctP o.zh
      obtain rfl := kD_key hq
      have e1 := rd'.key hq
      subst e1
      rcases h2.val (k := q) with ⟨z1, z2⟩ | ⟨x, y, F1, z1, z2, z3⟩
      · rw [z1] at hf; cases hf
      · rw [z1] at hf
        cases hf
        refine .inr (.inr ⟨a, y, rfl, ?_, p y F1 z3⟩)
        rw [← z2]
        exact DGet.kd h1
    · cases hf
  · cases hf
end
end Mi
set_option maxHeartbeats 4000000
namespace Mi
open PySem PySem.Spec PyProof.Rows L2 RZ Ov
section
variable {N : Cn} {C : Ct} {Z H Z' H' : Hp} {F F' G Fv : List Addr} {σ : L2.St}
/-! ### frozen -/
def eFz (m : ME) : ME := fun env => (m env).bind fun d e => .ok (fz d) e
theorem re_fz {st : Bool} {t : TE} {m : ME} (h : RefE N st t m) : RefE N st t (eFz m) := fun env σ Z H F Q o r w => by
  refine h.freeze env σ Z H F Q o r (w.bind.mono (Pin.refl _ _) (Ext.refl o) ?_)
  intro d env1 k v Z1 H1 F1 x rv r1 s1
  exact k v Z1 H1 [] F1 x rv r1 s1
/-! ### slices -/
def cutA {α : Type} (xs : List α) (lo hi : Option Int) : List α := (xs.drop (HT.sIx xs.length 0 lo)).take (HT.sIx xs.length xs.length hi - HT.sIx xs.length 0 lo)
def fSl : D → Option Int → Option Int → Option D
  | .tup ds, lo, hi => some (.tup (cutA ds lo hi))
  | .lst _ ds, lo, hi => if fznL ds then some (.lst true (cutA ds lo hi)) else none
  | .str x, lo, hi => if x.length ≤ sizeLine then some (.str (cutS x lo hi)) else none
  | _, _, _ => none
abbrev MO := Env → R (Option Int)
def oN : MO := fun env => .ok none env
def oS (m : ME) : MO := fun env => (m env).bind fun d e => match d with | .int i => .ok (some i) e | _ => .no
def eSl (m : ME) (lo hi : MO) : ME := fun env => (m env).bind fun d e => (lo e).bind fun l e => (hi e).bind fun h e => lift (fSl d l h) e
/-! ### built-ins -/
def intsD : List D → Option (List Int)
  | [] => some []
  | .int i :: ds => (intsD ds).map (i :: ·)
  | _ => none
@[simp] theorem intsD_ofMap (ns : List Int) : intsD (ns.map D.int) = some ns := by
  induction ns with
  | nil => rfl
  | cons n r ih => simp [intsD, ih]
theorem RdL.ofInts : ∀ {ns : List Int}, RdL C Z H (ns.map D.int) (ns.map V.int) []
  | [] => RdL.nil0
  | n :: ns => RdL.cons0 rd_int RdL.ofInts
def fLen : List D → Option D
  | [.tup ds] => some (.int ds.length)
  | [.lst _ ds] => some (.int ds.length)
  | [.scr ds] => some (.int ds.length)
  | [.str x] => if x.length ≤ sizeLine then some (.int x.length) else none
  | [.dct _ kvs] => some (.int kvs.length)
  | [.set (.non :: ks)] => some (.int ks.length)
  | [.set ks] => match intsD ks with | some ns => some (.int ns.length) | none => none
  | _ => none
def rLenSetK (P : Program) (w : World) : List V → Hp → VK → Prop := fun xs H Q => ∃ a S n, xs = [V.ref a] ∧ H a = some (SetK P w a S n) ∧ Q (.int (n : Int)) H
theorem call_lenSetK {X : Cx} : CallR X (.builtin "len") (rLenSetK X.prog X.w) := by
  intro pins s σ H xs us Q I r h
  obtain ⟨a, S, n, rfl, ha, q⟩ := h
  rw [Vals.ref1 r]
  obtain ⟨o, es, ep, t, ho, hex, hd, g, hm, hb, hf, hn⟩ := setK_get I ha
  refine call_len_set ho hex hd hf ?_ ⟨.int _, H, I.tok _, ⟨_, rfl⟩, ?_⟩
  · have : es.size < scanBound := hb
    have h2 : scanBound < 2 ^ 63 := by decide
    omega
  · rw [hn]; exact q
def rLenSetO (w : World) : List V → Hp → VK → Prop := fun xs H Q => ∃ a S n, xs = [V.ref a] ∧ H a = some (SetO w a S n) ∧ Q (.int (n : Int)) H
theorem call_lenSetO {X : Cx} : CallR X (.builtin "len") (rLenSetO X.w) := by
  intro pins s σ H xs us Q I r h
  obtain ⟨a, S, n, rfl, ha, q⟩ := h
  rw [Vals.ref1 r]
  obtain ⟨o, es, ep, t, ho, hex, hd, g, hm, hb, hf, hn⟩ := (setO_get I ha).setOf (P := X.prog)
  refine call_len_set ho hex hd hf ?_ ⟨.int _, H, I.tok _, ⟨_, rfl⟩, ?_⟩
  · have : es.size < scanBound := hb
    have h2 : scanBound < 2 ^ 63 := by decide
    omega
  · rw [hn]; exact q
def rLenU (K : PySem.W.Frag) (P : Program) (w : World) : List V → Hp → VK → Prop := fun xs H Q => (rLenS K xs H Q ∨ (∃ z, xs = [.str z] ∧ z.length ≤ sizeLine ∧ Q (.int z.length) H)) ∨
  ((∃ a kvs, xs = [V.ref a] ∧ H a = some (.dK kvs) ∧ Q (.int kvs.length) H) ∨ (rLenSetK P w xs H Q ∨ rLenSetO w xs H Q))
theorem o_len {X : Cx} (C : Ct) (h : X.K = C.K := by rfl) (h2 : X.prog = C.P := by rfl) (h3 : X.w = C.w := by rfl) : CallR X (.builtin "len") (rLenU C.K C.P C.w) := by
  rw [← h, ← h2, ← h3]
  exact CallR.or (CallR.or call_len_seq call_len_str) (CallR.or call_lenD (CallR.or call_lenSetK call_lenSetO))
theorem RdK.length : ∀ {kvs : List (D × D)} {us : List (Key × V)} {F : List Addr}, RdK C Z H kvs us F → kvs.length = us.length
  | [], _, _, h => by rw [RdK] at h; rw [h.1]; rfl
  | (k, d) :: r, _, _, h => by
    rw [RdK] at h
    obtain ⟨q, v, s, F1, F2, rfl, _, _, _, h⟩ := h
    simp [RdK.length h]
theorem f_len : FnL C (rLenU C.K C.P C.w) fLen := by
  intro ds vs Z H F Q e o ra hf p
  unfold fLen at hf
  split at hf
  · obtain ⟨v, F1, rfl, h⟩ := ra.one
    cases hf
    obtain ⟨_, a, us, rfl, h1, h2⟩ := h.tupP o.zh
    exact .inl (.inl ⟨a, us, rfl, .inr h1, by rw [← h2.length]; exact post_val o p rd_int⟩)
  · obtain ⟨v, F1, rfl, h⟩ := ra.one
    cases hf
    obtain ⟨a, us, G, rfl, h1, h2⟩ := h.lstD o.zh rfl
    exact .inl (.inl ⟨a, us, rfl, .inl h1, by rw [← h2.length]; exact post_val o p rd_int⟩)
  · obtain ⟨v, F1, rfl, h⟩ := ra.one
    cases hf
    obtain ⟨a, us, G, rfl, h1, h2⟩ := h.lstD o.zh rfl
    exact .inl (.inl ⟨a, us, rfl, .inl h1, by rw [← h2.length]; exact post_val o p rd_int⟩)
  · split at hf
    · rename_i q
      obtain ⟨v, F1, rfl, h⟩ := ra.one
      cases hf
      exact .inl (.inr ⟨_, by rw [h.strI], q, post_val o p rd_int⟩)
    · cases hf
  · obtain ⟨v, F1, rfl, h⟩ := ra.one
    cases hf
    obtain ⟨a, us, G, rfl, h1, h2⟩ := h.dctP o.zh
    exact .inr (.inl ⟨a, us, rfl, h1, by rw [← h2.length]; exact post_val o p rd_int⟩)
  · obtain ⟨v, F1, rfl, h⟩ := ra.one
    cases hf
    rw [RdV] at h
    obtain ⟨_, a, ob, rfl, h1, h2⟩ := h
    have h1 := o.zh _ _ h1
    rcases h2 with ⟨qs, e, _, rfl⟩ | ⟨ns, e, _, rfl⟩ | ⟨ls, e, _⟩
    · cases e
      refine .inr (.inr (.inl ⟨a, _, _, rfl, h1, ?_⟩))
      rw [List.length_map] at p
      exact post_val o p rd_int
    · cases ns <;> cases e
    · cases e
  · split at hf
    case h_2 => cases hf
    rename_i ns hn
    obtain ⟨v, F1, rfl, h⟩ := ra.one
    cases hf
    rw [RdV] at h
    obtain ⟨_, a, ob, rfl, h1, h2⟩ := h
    have h1 := o.zh _ _ h1
    rcases h2 with ⟨qs, e, _, rfl⟩ | ⟨ms, e, _, rfl⟩ | ⟨ls, e, _⟩
    · subst e
      simp [intsD] at hn
    · subst e
      rw [intsD_ofMap] at hn
      cases hn
      exact .inr (.inr (.inr ⟨a, _, _, rfl, h1, post_val o p rd_int⟩))
    · subst e
      simp [intsD] at hn
  · cases hf
def fAbs : List D → Option D
  | [.int i] => some (.int (if i < 0 then -i else i))
  | _ => none
theorem f_abs : FnL C (fun xs H Q => ∃ i, xs = [.int i] ∧ Q (.int (if i < 0 then -i else i)) H) fAbs := by
  intro ds vs Z H F Q e o ra hf p
  unfold fAbs at hf
  split at hf
  · obtain ⟨v, F1, rfl, h⟩ := ra.one
    cases hf
    exact ⟨_, by rw [h.intI], post_val o p rd_int⟩
  · cases hf
def fMin2 : List D → Option D
  | [.int i, .int j] => some (.int (if j < i then j else i))
  | _ => none
theorem f_min2 : FnL C (fun xs H Q => ∃ i j, xs = [.int i, .int j] ∧ Q (.int (if j < i then j else i)) H) fMin2 := by
  intro ds vs Z H F Q e o ra hf p
  unfold fMin2 at hf
  split at hf
  · obtain ⟨v, F1, w, F2, rfl, h, h2⟩ := ra.two
    cases hf
    exact ⟨_, _, by rw [h.intI, h2.intI], post_val o p rd_int⟩
  · cases hf
def fInt : List D → Option D
  | [.int i] => some (.int i)
  | [.bl k] => some (.int (if k then 1 else 0))
  | _ => none
theorem f_int : FnL C (fun xs H Q => (∃ i, xs = [.int i] ∧ Q (.int i) H) ∨ ∃ k, xs = [.bl k] ∧ Q (.int (if k then 1 else 0)) H) fInt := by
  intro ds vs Z H F Q e o ra hf p
  unfold fInt at hf
  split at hf
  · obtain ⟨v, F1, rfl, h⟩ := ra.one
    cases hf
    exact .inl ⟨_, by rw [h.intI], post_val o p rd_int⟩
  · obtain ⟨v, F1, rfl, h⟩ := ra.one
    cases hf
    exact .inr ⟨_, by rw [h.blI], post_val o p rd_int⟩
  · cases hf
/-! ### sorted -/
/-! ### tuple, list, repr, isinstance -/
def fTuple : List D → Option D
  | [.tup ds] => some (.tup ds)
  | [.lst _ ds] => if fznL ds then some (.tup ds) else none
  | _ => none
def fList : List D → Option D
  | [.tup ds] => if fznL ds then some (.lst true ds) else none
  | [.lst _ ds] => if fznL ds then some (.lst true ds) else none
  | _ => none
def fRepr : List D → Option D
  | [d] => match toPy d with
    | some p => if p.showable && decide (p.depth ≤ 60) && decide (p.shown.length ≤ sizeLine) then some (.str p.shown) else none
    | none => none
  | _ => none
theorem f_repr : FnL C (fun xs H Q => ∃ x d, xs = [x] ∧ Dp C.K H x d ∧ d.showable = true ∧ d.depth ≤ 60 ∧ d.shown.length ≤ sizeLine ∧ Q (.str d.shown) H) fRepr := by
  intro ds vs Z H F Q e o ra hf p
  unfold fRepr at hf
  split at hf
  · split at hf
    · rename_i d pd hp
      split at hf
      · rename_i q
        cases hf
        simp only [Bool.and_eq_true, decide_eq_true_eq] at q
        obtain ⟨v, F1, rfl, hd⟩ := ra.one
        exact ⟨v, pd, rfl, RdV.dp o.zh _ v F1 pd hp hd, q.1.1, q.1.2, q.2, post_val o p rd_str⟩
      · cases hf
    · cases hf
  · cases hf
def kdD : D → Option Kd
  | .non => some .non
  | .bl _ => some .bl
  | .int _ => some .int
  | .str _ => some .str
  | .lst _ _ => some .lst
  | .scr _ => some .lst
  | .tup _ => some .tup
  | .dct _ _ => some .dic
  | _ => none
theorem RdV.kd {d : D} {v : V} {k : Kd} (o : Ok C.T Z H G) (h : RdV C Z H d v F) (e : kdD d = some k) : HasKd C.K H v k := by
  cases d with
  | non => cases e; rw [h.nonI]; exact .non
  | bl b => cases e; rw [h.blI]; exact .bl b
  | int b => cases e; rw [h.intI]; exact .int b
  | str b => cases e; rw [h.strI]; exact .str b
  | lst ow ds => cases e; obtain ⟨a, us, G, rfl, h1, h2⟩ := h.lstD o.zh rfl; exact .lst h1
  | scr ds => cases e; obtain ⟨a, us, G, rfl, h1, h2⟩ := h.lstD o.zh rfl; exact .lst h1
  | tup ds => cases e; obtain ⟨_, a, us, rfl, h1, h2⟩ := h.tupP o.zh; exact .tup h1
  | dct ow ds => cases e; obtain ⟨a, us, G, rfl, h1, h2⟩ := h.dctP o.zh; exact .dic h1
  | _ => cases e
/-- isinstance(x, T), T a built-in class: its name stands for it -/
def fIsa (f : Kd → Bool) : D → Option D := fun d => (kdD d).map fun k => .bl (f k)
end
end Mi
set_option maxHeartbeats 4000000
namespace Mi
open PySem PySem.Spec PyProof.Rows L2 RZ Ov
section
variable {N : Cn} {C : Ct} {Z H Z' H' : Hp} {F F' G Fv : List Addr} {σ : L2.St}
/-! ### attributes -/
def FldOk (C : Ct) (c f : String) : Prop := ∃ Ca, C.cls c = some Ca ∧ Cls C.K Ca ∧ NoAttr C.K Ca (PySem.Str.ofString f)
def eFld (cs : List String) (f : String) (m : ME) : ME := fun env => (m env).bind fun d e => match d with
  | .ins _ c fs => if cs.contains c then lift (fs.lookup f) e else .no
  | _ => .no
/-! ### places: a name, an attribute of a name -/
def putD (f : String) (d : D) : List (String × D) → List (String × D)
  | [] => [(f, d)]
  | (g, x) :: r => if g = f then (g, d) :: r else (g, x) :: putD f d r
abbrev Plc := Nat × Option (List String × String)
def getP (env : Env) : Plc → Option D
  | (i, none) => match env[i]? with | some (some d) => some d | _ => none
  | (i, some (cs, f)) => match env[i]? with | some (some (.ins true c fs)) => if cs.contains c then fs.lookup f else none | _ => none
def setP (env : Env) : Plc → D → Env
  | (i, none), e => env.set i (some e)
  | (i, some (_, f)), e => match env[i]? with | some (some (.ins o c fs)) => env.set i (some (.ins o c (putD f e fs))) | _ => env
def tPlc (K : PySem.W.Frag) : Plc → TE
  | (i, none) => tVar i
  | (i, some (_, f)) => tFld K (tVar i) (PySem.Str.ofString f)
def PlcOk (C : Ct) : Plc → Prop
  | (_, none) => True
  | (_, some (cs, f)) => ∀ c ∈ cs, FldOk C c f
/-- what stands at a place -/
def ReadP (C : Ct) (H : Hp) (σ : L2.St) : Plc → V → Prop
  | (i, none), u => σ[i]? = some (some u)
  | (i, some (_, f)), u => ∃ a Ca dx us, σ[i]? = some (some (.ref a)) ∧ H a = some (.ins Ca dx us) ∧ Cls C.K Ca ∧ NoAttr C.K Ca (PySem.Str.ofString f) ∧ us.lookup (PySem.Str.ofString f) = some u
theorem readP {p : Plc} {u : V} {Q : VK} (h : ReadP C H σ p u) (q : Q u H) : tPlc C.K p σ H Q := by
  rcases p with ⟨i, _ | ⟨cs, f⟩⟩
  · exact ⟨u, h, q⟩
  · obtain ⟨a, Ca, dx, us, h1, h2, h3, h4, h5⟩ := h
    exact ⟨.ref a, h1, a, Ca, dx, us, u, rfl, h2, h3, h4, h5, q⟩
theorem ReadP.uniq {p : Plc} {u u' : V} (s : Same H H') (h : ReadP C H σ p u) (h' : ReadP C H' σ p u') : u' = u := by
  rcases p with ⟨i, _ | ⟨cs, f⟩⟩
  · have h : σ[i]? = some (some u) := h
    have h' : σ[i]? = some (some u') := h'
    rw [h] at h'
    cases h'
    rfl
  · obtain ⟨a, Ca, dx, us, h1, h2, h3, h4, h5⟩ := h
    obtain ⟨a', Ca', dx', us', g1, g2, g3, g4, g5⟩ := h'
    rw [h1] at g1
    cases g1
    rw [s _ _ h2] at g2
    cases g2
    rw [h5] at g5
    cases g5
    rfl
theorem ReadP.uniqV {i : Nat} {u u' : V} (h : ReadP C H σ (i, none) u) (h' : ReadP C H' σ (i, none) u') : u' = u := by
  have h : σ[i]? = some (some u) := h
  have h' : σ[i]? = some (some u') := h'
  rw [h] at h'
  cases h'
  rfl
theorem RdF.mono' (sz : Same Z Z') {fs : List (String × D)} {us : List (Str × V)} (h : ∀ a ∈ F, H' a = H a) (r : RdF C Z H fs us F) : RdF C Z' H' fs us F := RdF.mono sz fs us F h r
theorem RdF.focus : ∀ {fs : List (String × D)} {us : List (Str × V)} {F : List Addr} {f : String} {e : D}, RdF C Z H fs us F → fs.lookup f = some e →
    ∃ u Fe Fr, us.lookup (PySem.Str.ofString f) = some u ∧ RdV C Z H e u Fe ∧ F.Perm (Fe ++ Fr) ∧
      ∀ H' e' Fe', (∀ b ∈ Fr, H' b = H b) → RdV C Z H' e' u Fe' → ∃ F', F'.Perm (Fe' ++ Fr) ∧ RdF C Z H' (putD f e' fs) us F'
  | [], us, F, f, e, h, q => by cases q
  | (k, d0) :: fs, us, F, f, e, h, q => by
    rw [RdF] at h
    obtain ⟨v, s, F1, F2, rfl, rfl, rv, h⟩ := h
    rw [List.lookup] at q
    by_cases z : f = k
    · subst z
      rw [beq_self_eq_true] at q
      cases q
      refine ⟨v, F1, F2, by rw [List.lookup, beq_self_eq_true], rv, List.Perm.refl _, fun H' e' Fe' hb r' => ⟨Fe' ++ F2, List.Perm.refl _, ?_⟩⟩
      rw [putD, if_pos rfl, RdF]
      exact ⟨v, s, Fe', F2, rfl, rfl, r', RdF.mono' (Same.refl _) hb h⟩
    · have q1 : (f == k) = false := beq_eq_false_iff_ne.mpr z
      rw [q1] at q
      obtain ⟨u, Fe, Fr, h1, h2, h3, h4⟩ := RdF.focus h q
      have q2 : (PySem.Str.ofString f == PySem.Str.ofString k) = false := beq_eq_false_iff_ne.mpr fun y => z (ofString_inj y)
      refine ⟨u, Fe, F1 ++ Fr, by rw [List.lookup, q2]; exact h1, h2, ?_, fun H' e' Fe' hb r' => ?_⟩
      · refine (List.Perm.append_left F1 h3).trans ?_
        rw [← List.append_assoc, ← List.append_assoc]
        exact List.Perm.append_right Fr List.perm_append_comm
      · obtain ⟨F', g1, g2⟩ := h4 H' e' Fe' (fun b hb' => hb b (List.mem_append_right _ hb')) r'
        refine ⟨F1 ++ F', ?_, ?_⟩
        · refine (List.Perm.append_left F1 g1).trans ?_
          rw [← List.append_assoc, ← List.append_assoc]
          exact List.Perm.append_right Fr List.perm_append_comm
        · rw [putD, if_neg (Ne.symm z), RdF]
          exact ⟨v, s, F1, F', rfl, rfl, RdV.mono (Same.refl _) d0 v F1 (fun b hb' => hb b (List.mem_append_left _ hb')) rv, g2⟩
theorem lt_of_get {env : Env} {i : Nat} {x : Option D} (e : env[i]? = some x) : i < env.length := by
  rcases Nat.lt_or_ge i env.length with z | z
  · exact z
  · rw [List.getElem?_eq_none z] at e; cases e
theorem focus {env : Env} {p : Plc} {e : D} (hp : PlcOk C p) (r : RdE C Z H env σ F) (h : getP env p = some e) :
    ∃ u Fe Fr, ReadP C H σ p u ∧ RdV C Z H e u Fe ∧ F.Perm (Fe ++ Fr) ∧
      ∀ H' e' Fe', (∀ b ∈ Fr, H' b = H b) → RdV C Z H' e' u Fe' → ∃ F', F'.Perm (Fe' ++ Fr) ∧ RdE C Z H' (setP env p e') σ F' := by
  rcases p with ⟨i, _ | ⟨cs, f⟩⟩
  · change (match env[i]? with | some (some d) => some d | _ => none) = some e at h
    split at h
    · rename_i d q
      cases h
      obtain ⟨v, F1, F2, h1, h2, h3, h4⟩ := r.take q
      refine ⟨v, F1, F2, h1, h2, h3, fun H' e' Fe' hb r' => ?_⟩
      have h4' : RdE C Z H' (env.set i none) σ F2 := RdE.mono (Same.refl _) hb h4
      obtain ⟨F3, g1, g2⟩ := RdE.put (i := i) h4' (lt_of_get q) r'
      rw [set_same (env := env) h1] at g2
      exact ⟨F3, g1, g2⟩
    · cases h
  · change (match env[i]? with | some (some (.ins true c fs)) => if cs.contains c then fs.lookup f else none | _ => none) = some e at h
    split at h
    · rename_i c fs q
      split at h
      · rename_i hcc
        obtain ⟨v, F1, F2, h1, h2, h3, h4⟩ := r.take q
        rw [RdV] at h2
        obtain ⟨a, Ca, dx, us, G, rfl, h5, h6, rfl, h7⟩ := h2
        obtain ⟨u, Fe, Fr, g1, g2, g3, g4⟩ := RdF.focus h7 h
        obtain ⟨Cb, q1, q2, q3⟩ := hp c (by simpa using hcc)
        rw [h5] at q1
        cases q1
        refine ⟨u, Fe, a :: (Fr ++ F2), ⟨a, Ca, dx, us, h1, h6, q2, q3, g1⟩, g2, ?_, fun H' e' Fe' hb r' => ?_⟩
        · refine h3.trans ?_
          rw [List.cons_append]
          refine (List.Perm.cons a (List.Perm.append_right F2 g3)).trans ?_
          rw [List.append_assoc]
          exact List.perm_middle.symm
        · have hba : H' a = H a := hb a (List.mem_cons_self ..)
          have hbr : ∀ b ∈ Fr, H' b = H b := fun b hb' => hb b (List.mem_cons_of_mem _ (List.mem_append_left _ hb'))
          have hb2 : ∀ b ∈ F2, H' b = H b := fun b hb' => hb b (List.mem_cons_of_mem _ (List.mem_append_right _ hb'))
          obtain ⟨F3, k1, k2⟩ := g4 H' e' Fe' hbr r'
          have h4' : RdE C Z H' (env.set i none) σ F2 := RdE.mono (Same.refl _) hb2 h4
          have hv : RdV C Z H' (.ins true c (putD f e' fs)) (.ref a) (a :: F3) := by
            rw [RdV]
            exact ⟨a, Ca, dx, us, F3, rfl, h5, by rw [hba]; exact h6, rfl, k2⟩
          obtain ⟨F4, j1, j2⟩ := RdE.put (i := i) h4' (lt_of_get q) hv
          rw [set_same (env := env) h1] at j2
          refine ⟨F4, ?_, ?_⟩
          · refine j1.trans ?_
            rw [List.cons_append]
            refine (List.Perm.cons a (List.Perm.append_right F2 k1)).trans ?_
            rw [List.append_assoc]
            exact List.perm_middle.symm
          · have es : setP env (i, some (cs, f)) e' = env.set i (some (.ins true c (putD f e' fs))) := by
              show (match env[i]? with | some (some (.ins o c fs)) => env.set i (some (.ins o c (putD f e' fs))) | _ => env) = _
              rw [q]
            rw [es]
            exact j2
      · cases h
    · cases h
/-- the thing at a place is changed: it takes in what was held -/
theorem change {env : Env} {p : Plc} {e e' : D} {u : V} {a : Addr} {ob : HO} (hp : PlcOk C p) (o : Ok C.T Z H (Fv ++ F)) (r : RdE C Z H env σ F) (h : getP env p = some e) (hu : ReadP C H σ p u)
    (k : ∀ Fe, RdV C Z H e u Fe → ∃ Fe', a ∈ Fe ∧ Fe'.Perm (Fv ++ Fe) ∧ (a ∉ Fv → Fe.Nodup → RdV C Z (upd H a ob) e' u Fe')) (hnode : NodeO a ob := by exact node_of rfl) :
    ∃ F', Ext C.T Z H (Fv ++ F) Z (upd H a ob) F' ∧ RdE C Z (upd H a ob) (setP env p e') σ F' := by
  obtain ⟨u', Fe, Fr, h1, h2, h3, h4⟩ := focus hp r h
  have := ReadP.uniq (Same.refl _) hu h1
  subst this
  obtain ⟨Fe', g1, g2, g3⟩ := k Fe h2
  have nd := o.nd
  have pm : (Fv ++ F).Perm (Fv ++ (Fe ++ Fr)) := List.Perm.append_left Fv h3
  have nd2 := pm.nodup_iff.mp nd
  have haF : a ∈ F := h3.mem_iff.mpr (List.mem_append_left _ g1)
  have na : a ∉ Fv := fun z => (List.nodup_append.mp nd).2.2 a z a haF rfl
  have nr : a ∉ Fr := fun z => (List.nodup_append.mp (nodup_right nd2)).2.2 a g1 a z rfl
  obtain ⟨F', k1, k2⟩ := h4 (upd H a ob) e' Fe' (fun b hb => upd_ne fun z : b = a => nr (by rw [← z]; exact hb)) (g3 na (nodup_left (nodup_right nd2)))
  have pm2 : F'.Perm (Fv ++ F) := by
    refine k1.trans ((List.Perm.append_right Fr g2).trans ?_)
    rw [List.append_assoc]
    exact pm.symm
  refine ⟨F', (Ext.mut o (List.mem_append_right _ haF) hnode).sub (pm2.nodup_iff.mpr nd) fun b hb => pm2.mem_iff.mp hb, k2⟩
/-! ### x.append(e) -/
def plcSt (p : Plc) (st : Bool) : Bool := st || p.2.isNone
theorem place_same {st : Bool} {env1 : Env} {p : Plc} {u : V} {e1 : D} {Z1 H1 : Hp} {F1 : List Addr} (hp : PlcOk C p) (hs : plcSt p st = true) (g1 : ReadP C H σ p u) (r1 : RdE C Z1 H1 env1 σ F1) (q1 : getP env1 p = some e1) (sm : st = true → Same H H1) : ReadP C H1 σ p u := by
  obtain ⟨u', _, _, j1, _⟩ := focus hp r1 q1
  have : u' = u := by
    rcases p with ⟨i, _ | ⟨cs, f⟩⟩
    · exact ReadP.uniqV g1 j1
    · exact ReadP.uniq (sm (by simpa [plcSt] using hs)) g1 j1
  subst this
  exact j1
/-- a method of a list at a place, with arguments -/
def mList (p : Plc) (m : ML) (f : List D → List D → Option (D × List D)) : ME := fun env => match getP env p with
  | some (.lst true _) => (m env).bind fun as e => match getP e p with
    | some (.lst true ds) => (match f ds as with | some (d, ds') => .ok d (setP e p (.lst true ds')) | none => .no)
    | _ => .no
  | _ => .no
/-- what such a method may do: what it hands back is frozen, or was held -/
def FnM (C : Ct) (r : V → List V → Hp → VK → Prop) (f : List D → List D → Option (D × List D)) : Prop := ∀ ds as d ds' vs us G Fv Z H l Q, f ds as = some (d, ds') → Ok C.T Z H (Fv ++ (l :: G)) → H l = some (.lst vs) → RdL C Z H ds vs G → RdL C Z H as us Fv →
  (∀ vs' v Fd G', H l = some (.lst vs) → (Fd ++ G').Nodup → (∀ a ∈ Fd ++ G', a ∈ Fv ++ G) → RdL C Z H ds' vs' G' → RdV C Z H d v Fd → Q v (upd H l (.lst vs'))) → r (.ref l) us H Q
theorem re_list {st : Bool} {p : Plc} {r : V → List V → Hp → VK → Prop} {f : List D → List D → Option (D × List D)} {t : TA} {m : ML} (hf : FnM N.C r f) (hp : PlcOk N.C p) (h : RefA N st t m) (hs : plcSt p st = true) :
    RefE N false (tBM N.C.K "list" r (tPlc N.C.K p) t) (mList p m f) := fun env σ Z H F Q o re w => by
  unfold mList at w
  split at w
  · rename_i ds0 q0
    obtain ⟨u, Fe, Fr, g1, g2, g3, g4⟩ := focus hp re q0
    refine readP g1 ⟨?_, ?_⟩
    · obtain ⟨a, vs, G, rfl, h1, h2⟩ := g2.lstD o.zh rfl
      exact .inl ⟨rfl, _, h1⟩
    refine h env σ Z H F _ o re (w.bind.mono (Pin.refl _ _) (Ext.refl o) ?_)
    intro as env1 k us Z1 H1 Fv F1 x1 rv r1 sm1
    split at k
    · rename_i ds q1
      have hu := place_same hp hs g1 r1 q1 sm1
      obtain ⟨u', Fe1, Fr1, j1, j2, j3, j4⟩ := focus hp r1 q1
      have eu := ReadP.uniq (Same.refl _) hu j1
      subst eu
      cases hfd : f ds as with
      | none => simp only [hfd] at k; exact k.elim
      | some pr =>
      obtain ⟨d, ds'⟩ := pr
      simp only [hfd] at k
      rw [RdV] at j2
      obtain ⟨l, vs, G, rfl, e1, rfl, e3⟩ := j2
      have pm : (Fv ++ F1).Perm (Fv ++ ((l :: G) ++ Fr1)) := List.Perm.append_left Fv j3
      have nd2 := pm.nodup_iff.mp x1.ok.nd
      have o2 : Ok N.C.T Z1 H1 (Fv ++ (l :: G)) := x1.ok.sub (by rw [← List.append_assoc] at nd2; exact nodup_left nd2) fun a ha => by
        refine pm.mem_iff.mpr ?_
        rw [← List.append_assoc]
        exact List.mem_append_left _ ha
      refine hf ds as d ds' vs us G Fv Z1 H1 l Q hfd o2 e1 e3 rv ?_
      intro vs' v Fd G' _ ndd sub rl rd
      have nl : l ∉ Fv ++ G := fun z => by
        have := o2.nd
        rw [List.nodup_append] at this
        rcases List.mem_append.mp z with z | z
        · exact this.2.2 l z l (List.mem_cons_self ..) rfl
        · exact (List.nodup_cons.mp this.2.1).1 z
      have nl' : l ∉ Fd ++ G' := fun z => nl (sub l z)
      have nr : l ∉ Fr1 := fun z => by
        have := nodup_right nd2
        exact (List.nodup_append.mp this).2.2 l (List.mem_cons_self ..) l z rfl
      obtain ⟨F3, k1, k2⟩ := j4 (upd H1 l (.lst vs')) (.lst true ds') (l :: G') (fun b hb => upd_ne fun z : b = l => nr (by rw [← z]; exact hb)) (by
        rw [RdV]
        exact ⟨l, vs', G', rfl, upd_same, rfl, rl.mut fun z => nl' (List.mem_append_right _ z)⟩)
      have hmem : l ∈ Fv ++ F1 := pm.mem_iff.mpr (by simp)
      have x2 := Ext.mut (o := .lst vs') x1.ok hmem
      refine k v Z1 _ Fd F3 (x1.trans (x2.sub ?_ fun a ha => ?_)) (rd.mut fun z => nl' (List.mem_append_left _ z)) k2 fun z => by cases z
      · have pm3 : (Fd ++ F3).Perm (l :: ((Fd ++ G') ++ Fr1)) := by
          refine (List.Perm.append_left Fd k1).trans ?_
          rw [List.cons_append]
          refine List.perm_middle.trans ?_
          rw [List.append_assoc]
        refine pm3.nodup_iff.mpr (List.nodup_cons.mpr ⟨fun z => ?_, List.nodup_append.mpr ⟨ndd, nodup_right (nodup_right nd2), fun a ha b hb e => ?_⟩⟩)
        · rcases List.mem_append.mp z with z | z
          · exact nl' z
          · exact nr z
        · subst e
          rcases List.mem_append.mp (sub a ha) with z | z
          · exact (List.nodup_append.mp nd2).2.2 a z a (List.mem_append_right _ hb) rfl
          · exact (List.nodup_append.mp (nodup_right nd2)).2.2 a (List.mem_cons_of_mem _ z) a hb rfl
      · refine pm.mem_iff.mpr ?_
        rcases List.mem_append.mp ha with z | z
        · rcases List.mem_append.mp (sub a (List.mem_append_left _ z)) with y | y
          · exact List.mem_append_left _ y
          · exact List.mem_append_right _ (List.mem_append_left _ (List.mem_cons_of_mem _ y))
        · rcases List.mem_append.mp (k1.mem_iff.mp z) with y | y
          · rcases List.mem_cons.mp y with y | y
            · subst y; simp
            · rcases List.mem_append.mp (sub a (List.mem_append_right _ y)) with y | y
              · exact List.mem_append_left _ y
              · exact List.mem_append_right _ (List.mem_append_left _ (List.mem_cons_of_mem _ y))
          · exact List.mem_append_right _ (List.mem_append_right _ y)
    · exact k.elim
  · exact w.elim
def fAppend : List D → List D → Option (D × List D)
  | ds, [d] => if ds.length < sizeLine then some (.non, ds ++ [d]) else none
  | _, _ => none
theorem m_append : FnM C rAppend fAppend := by
  intro ds as d ds' vs us G Fv Z H l Q hf o hl rl ra k
  unfold fAppend at hf
  split at hf
  · rename_i x
    split at hf
    · rename_i hz
      cases hf
      rw [RdL] at ra
      obtain ⟨v, r, F1, F2, rfl, rfl, rv, ra⟩ := ra
      rw [RdL] at ra
      obtain ⟨rfl, rfl⟩ := ra
      refine ⟨l, vs, v, rfl, rfl, hl, by rw [← rl.length]; exact hz, ?_⟩
      have nd := o.nd
      rw [List.append_nil] at nd
      have nd' := List.nodup_append.mp nd
      refine k (vs ++ [v]) .non [] (G ++ F1) hl ?_ ?_ (RdL.snoc rl rv) rd_non
      · rw [List.nil_append]
        refine List.nodup_append.mpr ⟨(List.nodup_cons.mp nd'.2.1).2, nd'.1, fun a ha b hb e => ?_⟩
        subst e
        exact nd'.2.2 a hb a (List.mem_cons_of_mem _ ha) rfl
      · intro a ha
        simp only [List.nil_append, List.mem_append, List.append_nil] at ha ⊢
        exact ha.symm
    · cases hf
  · cases hf
/-- xs.extend(ys): ys a list that holds no owned node -/
def fExtend : List D → List D → Option (D × List D)
  | ds, [.lst _ es] => if ds.length + es.length ≤ sizeLine ∧ fznL es = true then some (.non, ds ++ es) else none
  | _, _ => none
theorem RdL.appG : ∀ {ds es : List D} {vs us : List V} {G : List Addr}, RdL C Z H ds vs G → RdL C Z H es us [] → RdL C Z H (ds ++ es) (vs ++ us) G
  | [], es, vs, us, G, h, h2 => by rw [RdL] at h; rw [h.1, h.2]; exact h2
  | d :: ds, es, vs, us, G, h, h2 => by
    rw [RdL] at h
    obtain ⟨v, r, F1, F2, rfl, rfl, h3, h4⟩ := h
    rw [List.cons_append, List.cons_append, RdL]
    exact ⟨v, r ++ us, F1, F2, rfl, rfl, h3, RdL.appG h4 h2⟩
theorem m_extend : FnM C rExtend fExtend := by
  intro ds as d ds' vs us G Fv Z H l Q hf o hl rl ra k
  unfold fExtend at hf
  split at hf
  · rename_i ow es
    split at hf
    · rename_i hz
      cases hf
      rw [RdL] at ra
      obtain ⟨v, r, F1, F2, rfl, rfl, rv, ra⟩ := ra
      rw [RdL] at ra
      obtain ⟨rfl, rfl⟩ := ra
      obtain ⟨b, zs, G2, rfl, h1, h2⟩ := rv.lstP o.zh
      refine ⟨l, b, vs, zs, rfl, rfl, hl, h1, by rw [← rl.length, ← h2.length]; exact hz.1, ?_⟩
      have nd' := List.nodup_append.mp o.nd
      refine k (vs ++ zs) .non [] G hl ?_ ?_ (RdL.appG rl (h2.nof hz.2)) rd_non
      · exact (List.nodup_cons.mp nd'.2.1).2
      · intro a ha
        exact List.mem_append_right _ (by simpa using ha)
    · cases hf
  · cases hf
theorem RdL.erase : ∀ {ds : List D} {vs : List V} {G : List Addr} {k : Nat} {d : D}, RdL C Z H ds vs G → ds[k]? = some d → ∃ v Fd G', vs[k]? = some v ∧ G.Perm (Fd ++ G') ∧ RdV C Z H d v Fd ∧ RdL C Z H (ds.eraseIdx k) (vs.eraseIdx k) G'
  | [], _, _, k, d, _, e => by simp at e
  | d0 :: ds, _, _, 0, d, h, e => by
    rw [RdL] at h
    obtain ⟨v, r, F1, F2, rfl, rfl, h3, h4⟩ := h
    cases e
    exact ⟨v, F1, F2, rfl, List.Perm.refl _, h3, h4⟩
  | d0 :: ds, _, _, k + 1, d, h, e => by
    rw [RdL] at h
    obtain ⟨v, r, F1, F2, rfl, rfl, h3, h4⟩ := h
    obtain ⟨v', Fd, G', g1, g2, g3, g4⟩ := RdL.erase h4 (show ds[k]? = some d from e)
    refine ⟨v', Fd, F1 ++ G', g1, ?_, g3, ?_⟩
    · refine (List.Perm.append_left F1 g2).trans ?_
      rw [← List.append_assoc, ← List.append_assoc]
      exact List.Perm.append_right G' List.perm_append_comm
    · rw [List.eraseIdx_cons_succ, List.eraseIdx_cons_succ, RdL]
      exact ⟨v, _, F1, G', rfl, rfl, h3, g4⟩
end
end Mi
set_option maxHeartbeats 4000000
namespace Mi
open PySem PySem.Spec PyProof.Rows L2 RZ Ov
section
variable {N : Cn} {C : Ct} {Z H Z' H' : Hp} {F F' G Fv : List Addr} {σ : L2.St}
/-! ### xs.pop() -/
/-! ### x[i] = e -/
def putKD (kvs : List (D × D)) (k d : D) : List (D × D) := if (lookD kvs k).isSome then kvs.map (fun p => if eqF p.1 k then (p.1, d) else p) else kvs ++ [(k, d)]
theorem RdK.mapv : ∀ {kvs : List (D × D)} {us : List (Key × V)} {F : List Addr} {k : Key} {d : D} {v : V}, RdV C Z H d v [] → RdK C Z H kvs us F →
    ∃ F', F'.Sublist F ∧ RdK C Z H (kvs.map fun p => if eqF p.1 (kD k) then (p.1, d) else p) (us.map fun kv => if kv.1 = k then (kv.1, v) else kv) F'
  | [], _, _, k, d, v, _, h => by rw [RdK] at h; rw [h.1]; exact ⟨[], List.nil_sublist _, by simp [RdK]⟩
  | (k0, d0) :: r, _, _, k, d, v, rv, h => by
    rw [RdK] at h
    obtain ⟨q, v0, s, F1, F2, rfl, rfl, rfl, r0, h⟩ := h
    obtain ⟨F3, s3, r3⟩ := RdK.mapv (k := k) rv h
    rw [List.map_cons, List.map_cons]
    by_cases e : q = k
    · subst e
      rw [if_pos rfl, if_pos (by rw [eqF_kD]; simp)]
      refine ⟨F3, s3.trans (List.sublist_append_right ..), ?_⟩
      rw [RdK]
      exact ⟨q, v, _, [], F3, rfl, rfl, rfl, rv, r3⟩
    · rw [if_neg e, if_neg (by rw [eqF_kD]; simp [e])]
      refine ⟨F1 ++ F3, List.Sublist.append_left s3 F1, ?_⟩
      rw [RdK]
      exact ⟨q, v0, _, F1, F3, rfl, rfl, rfl, r0, r3⟩
theorem RdK.snoc : ∀ {kvs : List (D × D)} {us : List (Key × V)} {F F2 : List Addr} {k : Key} {d : D} {v : V}, RdV C Z H d v F2 → RdK C Z H kvs us F → RdK C Z H (kvs ++ [(kD k, d)]) (us ++ [(k, v)]) (F ++ F2)
  | [], _, _, F2, k, d, v, rv, h => by
    rw [RdK] at h
    rw [h.1, h.2, List.nil_append, List.nil_append, List.nil_append, RdK]
    exact ⟨k, v, [], F2, [], rfl, by simp, rfl, rv, by simp [RdK]⟩
  | (k0, d0) :: r, _, _, F2, k, d, v, rv, h => by
    rw [RdK] at h
    obtain ⟨q, v0, s, F1, F3, rfl, rfl, rfl, r0, h⟩ := h
    rw [List.cons_append, List.cons_append, RdK]
    exact ⟨q, v0, s ++ [(k, v)], F1, F3 ++ F2, rfl, by simp, rfl, r0, RdK.snoc rv h⟩
theorem RdK.put0 {kvs : List (D × D)} {us : List (Key × V)} {k : Key} {d : D} {v : V} (rv : RdV C Z H d v []) (h : RdK C Z H kvs us F) :
    ∃ F', F'.Sublist F ∧ RdK C Z H (putKD kvs (kD k) d) (putK us k v) F' := by
  unfold putKD putK
  rw [valV_any]
  rcases h.val (k := k) with ⟨z1, z2⟩ | ⟨x, y, F1, z1, z2, _⟩
  · rw [z1, z2]
    simp only [Option.isSome_none, Bool.false_eq_true, if_false]
    exact ⟨F ++ [], by simp, RdK.snoc rv h⟩
  · rw [z1, z2]
    simp only [Option.isSome_some, if_true]
    exact RdK.mapv rv h
theorem RdK.mut {a : Addr} {o : HO} {d : List (D × D)} {v : List (Key × V)} (h : RdK C Z H d v F) (n : a ∉ F) : RdK C Z (upd H a o) d v F :=
  RdK.mono (Same.refl _) d v F (fun b hb => upd_ne fun z : b = a => n (by rw [← z]; exact hb)) h
theorem RdL.set : ∀ {ds : List D} {vs : List V} {G Fd : List Addr} {j : Nat} {d : D} {v : V}, RdL C Z H ds vs G → RdV C Z H d v Fd → (Fd ++ G).Nodup → ∃ G', G'.Nodup ∧ (∀ a ∈ G', a ∈ Fd ++ G) ∧ RdL C Z H (ds.set j d) (vs.set j v) G'
  | [], vs, G, Fd, j, d, v, h, rv, nd => by
    rw [RdL] at h
    rw [h.1, h.2]
    refine ⟨[], List.nodup_nil, ?_, RdL.nil0⟩
    intro a ha
    cases ha
  | d0 :: ds, _, _, Fd, 0, d, v, h, rv, nd => by
    rw [RdL] at h
    obtain ⟨v0, r, F1, F2, rfl, rfl, h3, h4⟩ := h
    refine ⟨Fd ++ F2, ?_, ?_, ?_⟩
    · refine List.nodup_append.mpr ⟨nodup_left nd, nodup_right (nodup_right nd), fun a ha b hb e => ?_⟩
      subst e
      exact (List.nodup_append.mp nd).2.2 a ha a (List.mem_append_right _ hb) rfl
    · intro a ha
      rcases List.mem_append.mp ha with z | z
      · exact List.mem_append_left _ z
      · exact List.mem_append_right _ (List.mem_append_right _ z)
    · rw [List.set_cons_zero, List.set_cons_zero, RdL]
      exact ⟨v, r, Fd, F2, rfl, rfl, rv, h4⟩
  | d0 :: ds, _, _, Fd, j + 1, d, v, h, rv, nd => by
    rw [RdL] at h
    obtain ⟨v0, r, F1, F2, rfl, rfl, h3, h4⟩ := h
    have nd2 : (Fd ++ F2).Nodup := List.nodup_append.mpr ⟨nodup_left nd, nodup_right (nodup_right nd), fun a ha b hb e => by
      subst e
      exact (List.nodup_append.mp nd).2.2 a ha a (List.mem_append_right _ hb) rfl⟩
    obtain ⟨G', g1, g2, g3⟩ := RdL.set (j := j) h4 rv nd2
    refine ⟨F1 ++ G', ?_, ?_, ?_⟩
    · refine List.nodup_append.mpr ⟨nodup_left (nodup_right nd), g1, fun a ha b hb e => ?_⟩
      subst e
      rcases List.mem_append.mp (g2 a hb) with z | z
      · exact (List.nodup_append.mp nd).2.2 a z a (List.mem_append_left _ ha) rfl
      · exact (List.nodup_append.mp (nodup_right nd)).2.2 a ha a z rfl
    · intro a ha
      rcases List.mem_append.mp ha with z | z
      · exact List.mem_append_right _ (List.mem_append_left _ z)
      · rcases List.mem_append.mp (g2 a z) with y | y
        · exact List.mem_append_left _ y
        · exact List.mem_append_right _ (List.mem_append_right _ y)
    · rw [List.set_cons_succ, List.set_cons_succ, RdL]
      exact ⟨v0, _, F1, G', rfl, rfl, h3, g3⟩
/-- what stands in the place behind x[i] = d -/
def fSet : D → D → D → Option D
  | .lst true ds, .int k, d => match ixN ds.length k with | some j => some (.lst true (ds.set j d)) | none => none
  | .dct true kvs, k, d => match keyD k with | some _ => if kvs.length < sizeLine && fzn d then some (.dct true (putKD kvs k d)) else none | none => none
  | _, _, _ => none
def rDPutU : TSet := fun o i v H Q => ∃ a H4, o = .ref a ∧ DPut H a i v H4 ∧ Q H4
theorem set_dictU {X : Cx} (hu : X.A.units + 64 < cLine) : PSet X rDPutU := by
  intro pins s σ H o i v ov iv u Q I ro ri rv h
  obtain ⟨a, H4, rfl, g, q⟩ := h
  cases ro
  exact d_setItem (by omega) I g ri rv fun s4 I4 => ⟨H4, I4, q⟩
def rSetU : TSet := fun o i v H Q => rSetL o i v H Q ∨ rDPutU o i v H Q
theorem o_set {X : Cx} (hu : X.A.units + 64 < cLine) : PSet X rSetU := by
  intro pins s σ H o i v ov iv u Q I ro ri rv h
  rcases h with h | h
  · exact set_list pins s σ H o i v ov iv u Q I ro ri rv h
  · exact set_dictU hu pins s σ H o i v ov iv u Q I ro ri rv h
def sPut (p : Plc) (m n : ME) : MS := fun env => (m env).bind fun d e => match getP e p with
  | some _ => (n e).bind fun i e => match getP e p with
    | some c => (match fSet c i d with | some c' => .ok .nx (setP e p c') | none => .no)
    | none => .no
  | none => .no
theorem rs_put {s1 s2 : Bool} {p : Plc} {t u : TE} {m n : ME} (hp : PlcOk N.C p) (h : RefE N s1 t m) (hn : RefT N s2 u n) (hs : plcSt p s2 = true) : RefS N (tAsg t (gSub (tPlc N.C.K p) u rSetU)) (sPut p m n) := fun env σ Z H F D0 o r w => by
  refine h env σ Z H F _ o r (w.bind.mono (Pin.refl _ _) (Ext.refl o) ?_)
  intro d env1 k v Z1 H1 Fv F1 x1 rv r1 sm1
  split at k
  · rename_i c0 q0
    obtain ⟨a, Fe, Fr, g1, g2, g3, g4⟩ := focus hp r1 q0
    refine readP g1 ?_
    have o1 := x1.ok.split
    refine hn env1 σ Z1 H1 F1 _ o1 r1 ((Wp.bind k).mono (Pin.refl _ _) x1.right ?_)
    intro i env2 k2 iv Z2 H2 Fi F2 x2 ri r2 sm2
    have y2 := x2.hold x1.ok
    split at k2
    · rename_i c q1
      have hu := place_same hp hs g1 r2 q1 sm2
      cases hfd : fSet c i d with
      | none => simp only [hfd] at k2; exact k2.elim
      | some c' =>
      simp only [hfd] at k2
      have rv2 : RdV N.C Z2 H2 d v Fv := x2.held x1.ok.disj rv
      obtain ⟨u', Fe1, Fr1, j1, j2, j3, j4⟩ := focus hp r2 q1
      have eu := ReadP.uniq (Same.refl _) hu j1
      subst eu
      have pm : (Fv ++ F2).Perm (Fv ++ (Fe1 ++ Fr1)) := List.Perm.append_left Fv j3
      have nd2 := pm.nodup_iff.mp y2.ok.nd
      unfold fSet at hfd
      split at hfd
      · rename_i ds z
        cases hj : ixN ds.length z with
        | none => simp only [hj] at hfd; cases hfd
        | some j =>
        simp only [hj] at hfd
        cases hfd
        rw [RdV] at j2
        obtain ⟨l, vs, G, rfl, e1, rfl, e3⟩ := j2
        have ndFG : (Fv ++ G).Nodup := List.nodup_append.mpr ⟨nodup_left nd2, (List.nodup_cons.mp (nodup_left (nodup_right nd2))).2, fun a ha b hb e => by
          subst e
          exact (List.nodup_append.mp nd2).2.2 a ha a (List.mem_append_left _ (List.mem_cons_of_mem _ hb)) rfl⟩
        obtain ⟨G', n1, n2, n3⟩ := RdL.set (j := j) e3 rv2 ndFG
        have nl : l ∉ Fv ++ G := fun z => by
          rcases List.mem_append.mp z with z | z
          · exact (List.nodup_append.mp nd2).2.2 l z l (by simp) rfl
          · exact (List.nodup_cons.mp (nodup_left (nodup_right nd2))).1 z
        have nr : l ∉ Fr1 := fun z => (List.nodup_append.mp (nodup_right nd2)).2.2 l (List.mem_cons_self ..) l z rfl
        refine .inl ⟨l, vs, z, j, rfl, ri.intI, e1, by rw [← e3.length]; exact hj, ?_⟩
        obtain ⟨F3, k3, k4⟩ := j4 (upd H2 l (.lst (vs.set j v))) (.lst true (ds.set j d)) (l :: G') (fun b hb => upd_ne fun z : b = l => nr (by rw [← z]; exact hb)) (by
          rw [RdV]
          exact ⟨l, _, G', rfl, upd_same, rfl, n3.mut fun z => nl (n2 l z)⟩)
        have hmem : l ∈ Fv ++ F2 := pm.mem_iff.mpr (by simp)
        have x3 := Ext.mut (o := .lst (vs.set j v)) y2.ok hmem
        refine k2 σ Z2 _ F3 (Pin.refl _ _) ((x1.trans y2).trans (x3.sub ?_ fun a ha => ?_)) k4
        · refine k3.nodup_iff.mpr ?_
          rw [List.cons_append]
          refine List.nodup_cons.mpr ⟨fun z => ?_, List.nodup_append.mpr ⟨n1, nodup_right (nodup_right nd2), fun a ha b hb e => ?_⟩⟩
          · rcases List.mem_append.mp z with z | z
            · exact nl (n2 l z)
            · exact nr z
          · subst e
            rcases List.mem_append.mp (n2 a ha) with z | z
            · exact (List.nodup_append.mp nd2).2.2 a z a (List.mem_append_right _ hb) rfl
            · exact (List.nodup_append.mp (nodup_right nd2)).2.2 a (List.mem_cons_of_mem _ z) a hb rfl
        · refine pm.mem_iff.mpr ?_
          rcases List.mem_append.mp (k3.mem_iff.mp ha) with y | y
          · rcases List.mem_cons.mp y with y | y
            · subst y; simp
            · rcases List.mem_append.mp (n2 a y) with y | y
              · exact List.mem_append_left _ y
              · exact List.mem_append_right _ (List.mem_append_left _ (List.mem_cons_of_mem _ y))
          · exact List.mem_append_right _ (List.mem_append_right _ y)
      · rename_i kvs
        cases hk : keyD i with
        | none => simp only [hk] at hfd; cases hfd
        | some q =>
        simp only [hk] at hfd
        split at hfd
        case isFalse => cases hfd
        rename_i hz
        cases hfd
        rw [Bool.and_eq_true, decide_eq_true_eq] at hz
        have := RdV.fzn d v Fv hz.2 rv2
        subst this
        obtain rfl := kD_key hk
        have ei := ri.key hk
        subst ei
        rw [RdV] at j2
        obtain ⟨l, us, G, rfl, e1, rfl, e3⟩ := j2
        obtain ⟨G', n1, n2⟩ := RdK.put0 (k := q) rv2 e3
        simp only [List.nil_append] at pm nd2
        have nl : l ∉ G := (List.nodup_cons.mp (nodup_left nd2)).1
        have nr : l ∉ Fr1 := fun z => (List.nodup_append.mp nd2).2.2 l (List.mem_cons_self ..) l z rfl
        refine .inr ⟨l, _, rfl, DPut.k e1 (by rw [← e3.length]; exact hz.1), ?_⟩
        obtain ⟨F3, k3, k4⟩ := j4 (upd H2 l (.dK (putK us q v))) (.dct true (putKD kvs (kD q) d)) (l :: G') (fun b hb => upd_ne fun z : b = l => nr (by rw [← z]; exact hb)) (by
          rw [RdV]
          exact ⟨l, _, G', rfl, upd_same, rfl, n2.mut fun z => nl (n1.mem z)⟩)
        have hmem : l ∈ [] ++ F2 := pm.mem_iff.mpr (by simp)
        have x3 := Ext.mut (o := .dK (putK us q v)) y2.ok hmem
        refine k2 σ Z2 _ F3 (Pin.refl _ _) ((x1.trans y2).trans (x3.sub ?_ fun a ha => ?_)) k4
        · refine k3.nodup_iff.mpr ?_
          rw [List.cons_append]
          refine List.nodup_cons.mpr ⟨fun z => ?_, List.nodup_append.mpr ⟨n1.nodup (List.nodup_cons.mp (nodup_left nd2)).2, nodup_right nd2, fun a ha b hb e => ?_⟩⟩
          · rcases List.mem_append.mp z with z | z
            · exact nl (n1.mem z)
            · exact nr z
          · subst e
            exact (List.nodup_append.mp nd2).2.2 a (List.mem_cons_of_mem _ (n1.mem ha)) a hb rfl
        · refine pm.mem_iff.mpr ?_
          rcases List.mem_append.mp (k3.mem_iff.mp ha) with y | y
          · rcases List.mem_cons.mp y with y | y
            · subst y; simp
            · exact List.mem_append_left _ (List.mem_cons_of_mem _ (n1.mem y))
          · exact List.mem_append_right _ y
      · cases hfd
    · exact k2.elim
  · exact k.elim
/-! ### self.f = e -/
def sFldD (i : Nat) (cs : List String) (f : String) (m : ME) : MS := fun env => (m env).bind fun d e => match e[i]? with
  | some (some (.ins true c fs)) => if cs.contains c && decide (fs.length < 1000) then .ok .nx (e.set i (some (.ins true c (putD f d fs)))) else .no
  | _ => .no
theorem RdF.length : ∀ {fs : List (String × D)} {us : List (Str × V)} {F : List Addr}, RdF C Z H fs us F → fs.length = us.length
  | [], _, _, h => by rw [RdF] at h; rw [h.1]; rfl
  | (k, d) :: r, _, _, h => by
    rw [RdF] at h
    obtain ⟨v, s, F1, F2, rfl, _, _, h⟩ := h
    simp [RdF.length h]
theorem RdF.mut {a : Addr} {o : HO} {d : List (String × D)} {v : List (Str × V)} (h : RdF C Z H d v F) (n : a ∉ F) : RdF C Z (upd H a o) d v F :=
  RdF.mono (Same.refl _) d v F (fun b hb => upd_ne fun z : b = a => n (by rw [← z]; exact hb)) h
end
end Mi
set_option maxHeartbeats 4000000
set_option maxHeartbeats 4000000
set_option maxHeartbeats 4000000
namespace Mi
open PySem PySem.Spec PyProof.Rows L2 RZ Ov PpSet
/-! ### a text and its mirror -/
structure Ag (X : Cx) (N : Cn) : Prop where
  K : X.K = N.C.K
  P : X.prog = N.C.P
  w : X.w = N.C.w
def QE (X : Cx) (N : Cn) (st : Bool) (e : Expr) (m : ME) : Prop := ∃ t, PE X e t ∧ RefE N st t m
def QT (X : Cx) (N : Cn) (st : Bool) (e : Expr) (m : ME) : Prop := ∃ t, PE X e t ∧ RefT N st t m
def QB (X : Cx) (N : Cn) (st : Bool) (e : Expr) (m : MB) : Prop := ∃ t, PT X e t ∧ RefB N st t m
def QW (X : Cx) (N : Cn) (st : Bool) (e : Expr) (m : MB) : Prop := ∃ t, PW X e t ∧ RefB N st t m
def QA (X : Cx) (N : Cn) (st : Bool) (es : List Expr) (m : ML) : Prop := ∃ t, PA X es t ∧ RefA N st t m
def QTA (X : Cx) (N : Cn) (st : Bool) (es : List Expr) (m : ML) : Prop := ∃ t, PA X es t ∧ RefTA N st t m
def QM (X : Cx) (N : Cn) (st : Bool) (es : List Expr) (as : List Arg) : Prop := ∃ t, PA X es t ∧ RefM N st t as
def QI (X : Cx) (N : Cn) (tg e : Expr) (m : MI) : Prop := ∃ t, PI X tg e t ∧ RefI N t m
def QG (X : Cx) (N : Cn) (ws : List Nat) (e : Expr) (m : MG) : Prop := ∃ t, PG X e t ∧ RefG N ws t m
def QGs (X : Cx) (N : Cn) (ws : List Nat) (n : Nat) (es : List Expr) (m : MGs) : Prop := ∃ t, PGs X es t ∧ RefGs N ws n t m
def QS (X : Cx) (N : Cn) (s : Stmt) (m : MS) : Prop := ∃ t, PS X s t ∧ RefS N t m
def QSs (X : Cx) (N : Cn) (s : List Stmt) (m : MS) : Prop := ∃ t, PSs X s t ∧ RefS N t m
section
variable {X : Cx} {N : Cn} {st s1 s2 s3 : Bool} {a b c e o : Expr} {es : List Expr} {m n l : ME} {pos apos : Pos}
theorem QE.t (h : QE X N st e m) : QT X N st e m := let ⟨t, p, r⟩ := h; ⟨t, p, r.toT⟩
theorem QT.k (h : QT X N st e m) : QE X N st e (eK m) := let ⟨t, p, r⟩ := h; ⟨t, p, re_k r⟩
theorem QE.fz (h : QE X N st e m) : QE X N st e (eFz m) := let ⟨t, p, r⟩ := h; ⟨t, p, re_fz r⟩
theorem q_int {i : Int} {j : Nat} : QE X N true (.Constant (.int i) j pos) (eC (.int i)) := ⟨_, pe_int, re_int⟩
theorem q_bl {i : Bool} {j : Nat} : QE X N true (.Constant (.bool i) j pos) (eC (.bl i)) := ⟨_, pe_bl, re_bl⟩
theorem q_str {i : Str} {j : Nat} : QE X N true (.Constant (.str i) j pos) (eC (.str i)) := ⟨_, pe_str, re_str⟩
theorem q_non {j : Nat} : QE X N true (.Constant .none j pos) (eC .non) := ⟨_, pe_non, re_non⟩
theorem qv (i : Nat) {x : Str} (hN : X.N[i]? = some x := by rfl) (hv : Vis X.env.scope x := by first | exact Or.inl rfl | exact Or.inr (Or.inl rfl) | exact Or.inr (Or.inr rfl)) (hd : (x == ("__debug__" : Str)) = false := by decide) (hcd : (x == ("__classdict__" : Str)) = false := by decide) :
    QT X N true (.Name x pos) (eV i) := ⟨_, pe_var hN hv hd hcd, rt_v⟩
theorem qmv (i : Nat) {x : Str} (hN : X.N[i]? = some x := by rfl) (hv : Vis X.env.scope x := by first | exact Or.inl rfl | exact Or.inr (Or.inl rfl) | exact Or.inr (Or.inr rfl)) (hd : (x == ("__debug__" : Str)) = false := by decide) (hcd : (x == ("__classdict__" : Str)) = false := by decide) :
    QE X N true (.Name x pos) (eMv i) := ⟨_, pe_var hN hv hd hcd, re_mv⟩
/-! operators -/
theorem q_op {op : Operator} {r : R2} {f : D → D → Option D} (ho : OpR X (binaryOp op) r) (hf : Fn2 N.C r f) (ha : QT X N s1 a m) (hb : QT X N true b n) : QE X N s1 (.BinOp a op b pos) (e2 f m n) :=
  let ⟨_, p, q⟩ := ha; let ⟨_, p', q'⟩ := hb; ⟨_, pe_op ho p p', re_op hf q q'⟩
theorem q_cmp {op : CmpOp} {r : R2} {f : D → D → Option D} (ho : OpR X (compareOp op) r) (hf : Fn2 N.C r f) (ha : QT X N s1 a m) (hb : QT X N true b n) (hm : behindInMarks op b = false := by first | exact nomark _ | rfl) : QE X N s1 (.Compare a [op] [b] pos) (e2 f m n) :=
  let ⟨_, p, q⟩ := ha; let ⟨_, p', q'⟩ := hb; ⟨_, pe_cmpR ho p p' hm, re_op hf q q'⟩
theorem q_tcmp {op : CmpOp} {r : R2} {f : D → D → Option D} (ho : OpR X (compareOp op) r) (hf : Fn2 N.C r f) (ha : QT X N s1 a m) (hb : QT X N true b n) (hm : behindInMarks op b = false := by first | exact nomark _ | rfl) : QB X N s1 (.Compare a [op] [b] pos) (bB (e2 f m n)) :=
  let ⟨_, p, q⟩ := ha; let ⟨_, p', q'⟩ := hb; ⟨_, pt_cmpR ho p p' hm, rb_test (re_op hf q q').toT⟩
theorem q_tcmpk {op : CmpOp} {r : R2} {f : D → D → Option D} (ho : OpR X (compareOp op) r) (hf : Fn2 N.C r f) (ha : QE X N s1 a m) (hb : QT X N s2 b n) (hm : behindInMarks op b = false := by first | exact nomark _ | rfl) : QB X N (s1 && s2) (.Compare a [op] [b] pos) (bB (e2 f m n)) :=
  let ⟨_, p, q⟩ := ha; let ⟨_, p', q'⟩ := hb; ⟨_, pt_cmpR ho p p' hm, rb_test (re_opk hf q q').toT⟩
/-- a op b op' c -/
def eChain (f f' : D → D → Option D) (m n l : ME) : ME := fun env => (m env).bind fun x e => (n e).bind fun y e => match f x y with
  | some (.bl true) => (l e).bind fun z e => lift (f' y z) e
  | some (.bl false) => .ok (.bl false) e
  | _ => .no
def fNeg : D → Option D
  | .int i => some (.int (-i))
  | _ => none
theorem q_neg (ha : QT X N s1 a m) : QE X N s1 (.UnaryOp .USub a pos) (e1 fNeg m) := by
  obtain ⟨_, p, q⟩ := ha
  refine ⟨_, pe_un un_neg p, re_un ?_ q⟩
  intro d v Fd Z H F Q e o rd hf k
  unfold fNeg at hf
  split at hf
  · cases hf
    exact ⟨_, rd.intI, post_val o k rd_int⟩
  · cases hf
/-! and, or, not as values -/
variable {x y z : MB}
theorem q_ifx (hc : QB X N s1 c x) (ha : QE X N s2 a m) (hb : QE X N s3 b n) : QE X N (s1 && s2 && s3) (.IfExp c a b pos) (eIf x m n) := let ⟨_, p, q⟩ := hc; let ⟨_, p', q'⟩ := ha; let ⟨_, p2, q2⟩ := hb; ⟨_, pe_ifExp p p' p2, re_if q q' q2⟩
/-! tests -/
theorem q_tval (h : QT X N st e m) (he : ∀ whole, isTrue e X.env whole = (do let v ← whole; standAt e.pos; holding [v] (truthy v)) := by intro _; rfl) : QB X N st e (bB m) := let ⟨_, p, q⟩ := h; ⟨_, pt_val p he, rb_b q⟩
theorem q_tnot (h : QB X N st e x) : QB X N st (.UnaryOp .Not e pos) (bNot x) := let ⟨_, p, q⟩ := h; ⟨_, pt_not p, rb_not q⟩
theorem QW.t (h : QW X N st e x) : QB X N st e x := let ⟨_, p, q⟩ := h; ⟨_, p.pt, q⟩
theorem q_wor1 (h : QB X N st a x) : QW X N st (.BoolOp .Or [a] pos) x := let ⟨_, p, q⟩ := h; ⟨_, pw_or1 p, q⟩
theorem q_wor (ha : QB X N s1 a x) (hb : QW X N s2 (.BoolOp .Or (b :: es) pos) y) : QW X N (s1 && s2) (.BoolOp .Or (a :: b :: es) pos) (bOr x y) := let ⟨_, p, q⟩ := ha; let ⟨_, p', q'⟩ := hb; ⟨_, pw_or p p', rb_or q q'⟩
/-! arguments -/
variable {ms : ML} {as : List Arg}
theorem qa_nil : QA X N true [] lNil := ⟨_, pa_nil, ra_nil⟩
theorem qa_cons (ha : QE X N s1 e m) (hs : QA X N s2 es ms) (h : starEach (e :: es) X.env = (false, eval e X.env) :: starEach es X.env := by rfl) : QA X N (s1 && s2) (e :: es) (lCons m ms) := let ⟨_, p, q⟩ := ha; let ⟨_, p', q'⟩ := hs; ⟨_, pa_cons p p' h, ra_cons q q'⟩
theorem qta_nil : QTA X N true [] lNil := ⟨_, pa_nil, rta_nil⟩
theorem qta_cons (ha : QT X N s1 e m) (hs : QTA X N true es ms) (h : starEach (e :: es) X.env = (false, eval e X.env) :: starEach es X.env := by rfl) : QTA X N s1 (e :: es) (lCons m ms) := let ⟨_, p, q⟩ := ha; let ⟨_, p', q'⟩ := hs; ⟨_, pa_cons p p' h, rta_cons q q'⟩
theorem QA.ta (h : QA X N st es ms) : QTA X N st es ms := let ⟨_, p, q⟩ := h; ⟨_, p, q.toTA⟩
theorem qm_nil : QM X N true [] [] := ⟨_, pa_nil, rm_nil⟩
theorem qm_e (ha : QE X N s1 e m) (hs : QM X N s2 es as) (h : starEach (e :: es) X.env = (false, eval e X.env) :: starEach es X.env := by rfl) : QM X N (s1 && s2) (e :: es) (.e m :: as) := let ⟨_, p, q⟩ := ha; let ⟨_, p', q'⟩ := hs; ⟨_, pa_cons p p' h, rm_e q q'⟩
theorem qm_io (i : Nat) {x : Str} (hs : QM X N s2 es as) (hN : X.N[i]? = some x := by rfl) (hv : Vis X.env.scope x := by first | exact Or.inl rfl | exact Or.inr (Or.inl rfl) | exact Or.inr (Or.inr rfl)) (hd : (x == ("__debug__" : Str)) = false := by decide) (hcd : (x == ("__classdict__" : Str)) = false := by decide)
    (h : starEach (.Name x pos :: es) X.env = (false, eval (.Name x pos) X.env) :: starEach es X.env := by rfl) : QM X N s2 (.Name x pos :: es) (.io i :: as) := let ⟨_, p', q'⟩ := hs; ⟨_, pa_cons (pe_var hN hv hd hcd) p' h, rm_io q'⟩
/-! displays, items, slices, attributes -/
theorem q_tup {k : Nat} (h : QA X N st es ms) : QE X N st (.Tuple es k pos) (eTup ms) := let ⟨_, p, q⟩ := h; ⟨_, pe_tup p, re_tup q⟩
theorem q_lst (h : QA X N st es ms) : QE X N st (.List es pos) (eLst ms) := let ⟨_, p, q⟩ := h; ⟨_, pe_lst p, re_lst q⟩
theorem q_ix (ag : Ag X N) (hu : X.A.units + 64 < cLine) (ha : QT X N s1 a m) (hb : QT X N true b n) (hs : PlainIx b := by intro _ _; rfl) : QT X N s1 (.Subscript a b pos) (e2 fIx m n) := let ⟨_, p, q⟩ := ha; let ⟨_, p', q'⟩ := hb; ⟨_, pe_ix (o_ix N.C.K hu ag.K) p p' hs, rt_op f_ix q q'⟩
variable {lo hi : Option Expr} {ml mh : MO} {p2 : Pos}
/-! built-ins -/
theorem q_callB {r : List V → Hp → VK → Prop} {f : List D → Option D} {x : Str} {fid : String} {p : Pos} (hc : CallR X (.builtin fid) r) (hf : FnL N.C r f) (hm : X.mg x = none) (hv : bootBuiltins x = some (.builtin fid)) (ha : QTA X N st (e :: es) ms) (hg : Gl X x := by rfl)
    (hn : x ≠ "__name__" := by decide) (hdb : (x == ("__debug__" : Str)) = false := by decide) (he : starEach (e :: es) X.env = (false, eval e X.env) :: starEach es X.env := by rfl) (hpl : (backTo pos (starEach es X.env)).any (·.1) = false := by rfl) : QE X N st (.Call (.Name x p) (e :: es) [] pos) (eL f ms) := by
  obtain ⟨_, p', q⟩ := ha
  exact ⟨_, pe_callB hc hg hm hv p' hn hdb he hpl, re_cb hf q⟩
theorem q_callT {r : List V → Hp → VK → Prop} {f : List D → Option D} {x : Str} {T : String} {p : Pos} (hc : CallR X (.type T) r) (hf : FnL N.C r f) (hm : X.mg x = none) (hv : bootBuiltins x = some (.type T)) (ha : QTA X N st (e :: es) ms) (hg : Gl X x := by rfl)
    (hn : x ≠ "__name__" := by decide) (hdb : (x == ("__debug__" : Str)) = false := by decide) (he : starEach (e :: es) X.env = (false, eval e X.env) :: starEach es X.env := by rfl) (hpl : (backTo pos (starEach es X.env)).any (·.1) = false := by rfl) : QE X N st (.Call (.Name x p) (e :: es) [] pos) (eL f ms) := by
  obtain ⟨_, p', q⟩ := ha
  exact ⟨_, pe_callTy hc hg hm hv p' hn hdb he hpl, re_cb hf q⟩
/-! range as an argument -/
def eRg1 (m : ME) : Env → R (Int × Int) := fun env => (m env).bind fun d e => match d with | .int n => .ok (0, n) e | _ => .no
def eRg2 (m n : ME) : Env → R (Int × Int) := fun env => (m env).bind fun d e => (n e).bind fun d2 e => match d, d2 with | .int i, .int j => .ok (i, j) e | _, _ => .no
def rgL (i j : Int) : List D := (List.range (j - i).toNat).map fun k : Nat => .int (i + (k : Int))
def rgOk (i j : Int) : Bool := decide (-(2 ^ 62) ≤ i ∧ i < 2 ^ 62 ∧ -(2 ^ 62) ≤ j ∧ j < 2 ^ 62 ∧ (j - i).toNat ≤ 2 ^ 24)
def eLRg (g : Env → R (Int × Int)) : ME := fun env => (g env).bind fun ij e => if rgOk ij.1 ij.2 then .ok (.lst true (rgL ij.1 ij.2)) e else .no
def eTRg (g : Env → R (Int × Int)) : ME := fun env => (g env).bind fun ij e => if rgOk ij.1 ij.2 then .ok (.tup (rgL ij.1 ij.2)) e else .no
variable {g : Env → R (Int × Int)}
/-! dicts -/
def eDNew : ME := fun env => .ok (.dct true []) env
theorem q_dnew : QE X N true (.Dict [] [] pos) eDNew := by
  refine ⟨_, pe_dnewK, fun env σ Z H F Q o re w => fun p hp => ?_⟩
  have y := Ext.new (o := .dK []) o hp
  refine w (.ref p) Z _ [p] F y ?_ (re.same y.zz (same_new hp)) fun _ => same_new hp
  rw [RdV]
  exact ⟨p, [], [], rfl, upd_same, rfl, by simp [RdK]⟩
end
end Mi
set_option maxHeartbeats 4000000
namespace Mi
open PySem PySem.Spec PyProof.Rows L2 RZ Ov PpSet
section
variable {X : Cx} {N : Cn} {st s1 s2 s3 : Bool} {a b c e o tg : Expr} {es : List Expr} {m n l : ME} {pos apos p : Pos} {ms : ML} {as : List Arg} {mi : MI}
/-! ### what is walked -/
theorem pi_seqU {l : Expr} {tl : TE} (hl : PE X l tl) : PI X tg l (iSeqU X.K tl) := by
  refine ⟨fun pins s σ H R I h => thn (hl.run pins s σ H _ I h) fun v sA ⟨x, HA, IA, rA, ad, eq, q⟩ => ?_⟩
  subst eq
  cases rA
  have fp : ∀ b ∈ [sA.heap.objs.size], FpOk X pins HA b := fun b hb => by
    obtain rfl : b = sA.heap.objs.size := by simpa using hb
    exact IA.fpOk (Nat.le_refl _) (IA.hok.fresh (Nat.le_refl _))
  rcases q with ⟨⟨xs, hx⟩, q⟩ | ⟨⟨xs, hx⟩, q⟩
  · obtain ⟨its, rv, pl, hz⟩ := IA.list hx
    exact wpAny_pyIter_list pl.isList ⟨sA.heap.objs.size, [sA.heap.objs.size], _, _, HA, rfl, IA.kept (t' := sA.toks) fun b o e => Heap.get?_push_of_some _ e, turn_list ad _, ⟨_, Heap.get?_push_size _ rfl, rfl, rfl⟩, fp, q⟩
  · obtain ⟨its, rv, pl, hz⟩ := IA.tuple hx
    exact wpAny_pyIter_tuple (show sA.heap.IsTuple ad its.toArray from pl) ⟨sA.heap.objs.size, [sA.heap.objs.size], _, _, HA, rfl, IA.kept (t' := sA.toks) fun b o e => Heap.get?_push_of_some _ e, turn_tuple ad _, ⟨_, Heap.get?_push_size _ rfl, rfl, rfl⟩, fp, q⟩
theorem qi_seq (ag : Ag X N) (h : QE X N st e m) : QI X N tg e (iSeq m) := by
  obtain ⟨t, p', q⟩ := h
  have := pi_seqU (tg := tg) p'
  rw [ag.K] at this
  exact ⟨_, this, ri_seq q⟩
theorem qi_rng1 (hm : X.mg "range" = none) (ha : QTA X N st [a] ms) (hg : Gl X "range" := by rfl) (hs : starEach [a] X.env = [(false, eval a X.env)] := by rfl) : QI X N tg (.Call (.Name "range" p) [a] [] pos) (iOf rng1 ms) := let ⟨_, p', q⟩ := ha; ⟨_, pi_range1 hg hm p' hs, ri_rng1 q⟩
variable {elts : List Expr} {kk : Nat} {tpos : Pos}
theorem qi_enum (ag : Ag X N) (hm : X.mg "enumerate" = none) (ha : QTA X N st [a] ms) (hg : Gl X "enumerate" := by rfl) (hs : starEach [a] X.env = [(false, eval a X.env)] := by rfl) : QI X N (.Tuple elts kk tpos) (.Call (.Name "enumerate" p) [a] [] pos) (iOf enumD ms) := by
  obtain ⟨_, p', q⟩ := ha
  have := pi_enum (X := X) (p := p) (pos := pos) (tpos := tpos) (elts := elts) (kk := kk) hg hm p' hs
  rw [ag.K] at this
  exact ⟨_, this, ri_enum q⟩
/-! ### targets -/
variable {mg : MG} {ws ws2 : List Nat} {mgs : MGs} {k : Nat}
theorem qg_n (i : Nat) {x : Str} (hN : X.N.Nodup) (hi : X.N[i]? = some x := by rfl) (hx : Loc X.env.scope x := by first | exact Or.inl rfl | exact Or.inr rfl) (hf : X.fn x = true ∨ X.env.scope.names.lookup x = some .local := by first | exact .inl rfl | exact .inr rfl) : QG X N [i] (.Name x pos) (gN i) := ⟨_, pg_name hN hi hx hf, rg_n⟩
theorem qgs_nil : QGs X N [] 0 [] gsNil := ⟨_, pgs_nil, rgs_nil⟩
theorem qgs_cons {nn : Nat} (h : QG X N ws e mg) (hs : QGs X N ws2 nn es mgs) (ha : (assignEach (e :: es) X.env).map (·.2) = assign e X.env :: (assignEach es X.env).map (·.2) := by rfl) : QGs X N (ws ++ ws2) (nn + 1) (e :: es) (gsCons mg mgs) := let ⟨_, p', q⟩ := h; let ⟨_, p2, q2⟩ := hs; ⟨_, pgs_cons p' p2 ha, rgs_cons q q2⟩
theorem qg_t {nn : Nat} (ag : Ag X N) (h : QGs X N ws nn es mgs) (hc : X.calm = true := by rfl) (hn : (assignEach es X.env).length = nn := by rfl) (hst : (assignEach es X.env).findIdx? (·.1) = none := by rfl) : QG X N ws (.Tuple es k pos) (gT mgs) := by
  obtain ⟨_, p', q⟩ := h
  have := pg_tup (X := X) (pos := pos) (k := k) hc p' hn hst
  rw [ag.K] at this
  exact ⟨_, this, rg_t q⟩
/-! ### comprehensions -/
theorem Ag.blk {sh : Shared} {Hh : Hp} {scope : Scope} {env : PySem.Env} {fp : List Addr} (ag : Ag X N) : Ag (X.blk sh Hh scope env fp) N.calm := ⟨ag.K, ag.P, ag.w⟩
def QTs (X : Cx) (N : Cn) (st : Bool) (ifs : List Expr) (m : MB) : Prop := ∃ t, PTs X ifs t ∧ RefB N st t m
theorem qts_nil : QTs X N true [] bYes := ⟨_, pts_nil, rb_yes⟩
variable {ifs : List Expr} {scope : Scope} {own : List (Str × Nat)} {mc : MB} {tgt iter elt : Expr}
/-- the reading that a mirror gives -/
def tOfE (N : Cn) (st : Bool) (m : ME) : TE := fun σ H Q => ∃ env Z F, Ok N.C.T Z H F ∧ RdE N.C Z H env σ F ∧
  Wp N σ Z H F (m env) (fun d env' => ∀ v Z' H' Fv F', Ext N.C.T Z H F Z' H' (Fv ++ F') → RdV N.C Z' H' d v Fv → RdE N.C Z' H' env' σ F' → (st = true → Same H H') → Q v H')
theorem tofE : RefE N st (tOfE N st m) m := fun env σ Z H F Q o r w => ⟨env, Z, F, o, r, w⟩
theorem QE.can (h : QE X N st e m) : PE X e (tOfE N st m) := by
  obtain ⟨t, p', q⟩ := h
  exact ⟨fun pins s σ H Q I ⟨env, Z, F, ok, r, w⟩ => p'.run pins s σ H Q I (q env σ Z H F Q ok r w)⟩
def tOfB (N : Cn) (st : Bool) (m : MB) : TT := fun σ H Q => ∃ env Z F, Ok N.C.T Z H F ∧ RdE N.C Z H env σ F ∧
  Wp N σ Z H F (m env) (fun b env' => ∀ Z' H' F', Ext N.C.T Z H F Z' H' F' → RdE N.C Z' H' env' σ F' → (st = true → Same H H') → Q b H')
theorem tofB {x : MB} : RefB N st (tOfB N st x) x := fun env σ Z H F Q o r w => ⟨env, Z, F, o, r, w⟩
theorem QTs.can {x : MB} (h : QTs X N st ifs x) : PTs X ifs (tOfB N st x) := by
  obtain ⟨t, p', q⟩ := h
  exact ⟨fun pins s σ H Q I ⟨env, Z, F, ok, r, w⟩ => p'.run pins s σ H Q I (q env σ Z H F Q ok r w)⟩
def tOfG (N : Cn) (ws : List Nat) (m : MG) : TG := fun v σ H Q => ∃ env Z F Fv d env', Ok N.C.T Z H (Fv ++ F) ∧ RdE N.C Z H env σ F ∧ RdV N.C Z H d v Fv ∧ m d env = some env' ∧
  (∀ σ' F', F'.Nodup → (∀ a ∈ F', a ∈ Fv ++ F) → (σ'.length = σ.length ∧ ∀ i, i ∉ ws → σ'[i]? = σ[i]?) → RdE N.C Z H env' σ' F' → Q σ' H)
theorem tofG : RefG N ws (tOfG N ws mg) mg := fun env σ Z H F Fv d v Q env' o r rv e k => ⟨env, Z, F, Fv, d, env', o, r, rv, e, k⟩
theorem QG.can (h : QG X N ws e mg) : PG X e (tOfG N ws mg) := by
  obtain ⟨t, p', q⟩ := h
  exact ⟨fun pins s σ H v u Q I rv0 ⟨env, Z, F, Fv, d, env', ok, r, rv, em, w⟩ => p'.run pins s σ H v u Q I rv0 (q env σ Z H F Fv d v Q env' ok r rv em w)⟩
/-- the own names of a block, in order -/
theorem q_lc (hN : X.N.Nodup) (hi : QI X N tgt iter mi) (ok : BlkOk X.N X.env.scope scope own)
    (hg : ∀ (sh : Shared) (Hh : Hp) (A0 : Addr) (cl : List (Str × Addr)) (fp : List Addr), QG (X.blk sh Hh scope (compEnvC scope cl A0 X.env) fp) N.calm (own.map (·.2)) tgt mg)
    (ht : ∀ (sh : Shared) (Hh : Hp) (A0 : Addr) (cl : List (Str × Addr)) (fp : List Addr), QTs (X.blk sh Hh scope (compEnvC scope cl A0 X.env) fp) N.calm s1 ifs mc)
    (he : ∀ (sh : Shared) (Hh : Hp) (A0 : Addr) (cl : List (Str × Addr)) (fp : List Addr), QE (X.blk sh Hh scope (compEnvC scope cl A0 X.env) fp) N.calm s2 elt m)
    (hc : X.calm = true := by rfl) (hs : ∀ x, foldedSetIterable iter X.env x = pure x := by intro _; rfl) :
    QE X N false (.ListComp elt [⟨tgt, iter, ifs, 0⟩] scope pos) (eLc mi mg mc m (own.map (·.2))) := by
  obtain ⟨wi, p', q⟩ := hi
  exact ⟨_, pe_lc hc hN p' ok (fun a b c d e => (hg a b c d e).can) (fun a b c d e => (ht a b c d e).can) (fun a b c d e => (he a b c d e).can) hs, re_lc q tofG tofB tofE⟩
end
end Mi
set_option maxHeartbeats 4000000
namespace Mi
open PySem PySem.Spec PyProof.Rows L2 RZ Ov PpSet
open LamX (CodeO Tabs TabS)
section
variable {X : Cx} {N : Cn} {st s1 s2 s3 : Bool} {a b c e o tg : Expr} {es : List Expr} {m n l : ME} {pos apos cpos p : Pos} {ms : ML} {as : List Arg} {mi : MI} {mg : MG} {ws : List Nat}
/-! ### places -/
def QP (X : Cx) (N : Cn) (o : Expr) (p : Plc) : Prop := PE X o (tPlc N.C.K p) ∧ PlcOk N.C p
theorem qp_v (i : Nat) {x : Str} (hN : X.N[i]? = some x := by rfl) (hv : Vis X.env.scope x := by first | exact Or.inl rfl | exact Or.inr (Or.inl rfl) | exact Or.inr (Or.inr rfl)) (hd : (x == ("__debug__" : Str)) = false := by decide) (hcd : (x == ("__classdict__" : Str)) = false := by decide) :
    QP X N (.Name x pos) (i, none) := ⟨pe_var hN hv hd hcd, trivial⟩
/-! ### methods of lists -/
theorem q_lm {name : Str} {id : String} {r : V → List V → Hp → VK → Prop} {f : List D → List D → Option (D × List D)} {pl : Plc} (ag : Ag X N) (slot : Slot "list" name id) (hty : typeOf (.builtin id) = pure (.type "method_descriptor")) (hm : MtR X id r) (hf : FnM N.C r f) (hp : QP X N o pl) (ha : QA X N st (e :: es) ms) (hs : plcSt pl st = true := by rfl)
    (hbase : attributeBase o name X.env (eval o X.env) = eval o X.env := by rfl)
    (hfew : ((backTo cpos (starEach (e :: es) X.env)).all (fun x => !x.1) && (backToKw cpos (keywordEach [] X.env)).all (fun x => x.1.isSome) &&
      decide ((e :: es).length + ([] : List Keyword).length + (if ([] : List Keyword).isEmpty then 0 else 1) < 30)) = true := by rfl)
    (hline : (apos.endLine == cpos.line) = true := by rfl) (hst : starEach (e :: es) X.env = (false, eval e X.env) :: starEach es X.env := by rfl)
    (hpl : (backTo cpos (starEach es X.env)).any (·.1) = false := by rfl) : QE X N false (.Call (.Attribute o name apos) (e :: es) [] cpos) (mList pl ms f) := by
  obtain ⟨t, p', q⟩ := ha
  have := pe_bm PySem.F.plainAttrs_list slot hty hm hp.1 p' hbase hfew hline hst hpl
  rw [ag.K] at this
  exact ⟨_, this, re_list hf hp.2 q hs⟩
/-! ### calls -/
theorem we_none {xc : Bool} {E : XK} (h : N.px = none) : ∀ σ, WE' N xc σ E := fun σ => by unfold WE'; rw [h]; trivial
theorem q_call {k j : Nat} {x : Str} {ps : List Str} {io : List Bool} {f : Fun} {xc : Bool} (cl : Cal X.prog X.w X.K X.mg X.base CX0 k x ps (spM N.C xc io f)) (hr : Rm j X.A) (ha : QM X N st (e :: es) as) (hio : ioOf as = io := by rfl) (hpx : N.px = none := by rfl) (hk : k ≤ j := by decide) (hg : Gl X x := by rfl)
    (hdb : (x == ("__debug__" : Str)) = false := by decide) (he : starEach (e :: es) X.env = (false, eval e X.env) :: starEach es X.env := by rfl) (hpl : (backTo pos (starEach es X.env)).any (·.1) = false := by rfl) :
    QE X N false (.Call (.Name x p) (e :: es) [] pos) (eCall f as) := by
  obtain ⟨t, p', q⟩ := ha
  exact ⟨_, pc cl hr p' hk hg hdb he hpl, re_call q hio (we_none hpx)⟩
/-! ### statements -/
variable {s : Stmt} {ss sa sb : List Stmt} {mS nS : MS} {mB : MB}
theorem qss_nil : QSs X N [] sPass := ⟨_, pss_nil, rs_pass⟩
theorem qss_one (h : QS X N s mS) : QSs X N [s] mS := let ⟨_, p', q⟩ := h; ⟨_, pss_one p', q⟩
theorem qss_cons (h : QS X N s mS) (hs : QSs X N ss nS) : QSs X N (s :: ss) (sSeq mS nS) := let ⟨_, p', q⟩ := h; let ⟨_, p2, q2⟩ := hs; ⟨_, pss_cons p' p2, rs_seq q q2⟩
theorem qs_ret (h : QE X N st e m) : QS X N (.Return (some e) pos) (sRet m) := let ⟨_, p', q⟩ := h; ⟨_, ps_ret p', rs_ret q⟩
theorem qs_expr (h : QT X N st e m) (hs : swapsWith e none pos.line X.env = pure false := by rfl) : QS X N (.Expr e pos) (sExpr m) := let ⟨_, p', q⟩ := h; ⟨_, ps_expr p' hs, rs_expr q⟩
theorem qs_if (h : QB X N st c mB) (ha : QSs X N sa mS) (hb : QSs X N sb nS) : QS X N (.If c sa sb pos) (sIf mB mS nS) := let ⟨_, p', q⟩ := h; let ⟨_, p2, q2⟩ := ha; let ⟨_, p3, q3⟩ := hb; ⟨_, ps_if p' p2 p3, rs_if q q2 q3⟩
theorem qs_for {iter : Expr} (hp : PassesOwn (model X.prog X.w) X.A X.env X.xe) (hi : QI X N tg iter mi) (hg : QG X N ws tg mg) (ha : QSs X N sa mS) (hpin : gOk ws N.pin = true := by rfl) (hc : X.calm = true := by rfl) (hs : ∀ x, foldedSetIterable iter X.env x = pure x := by intro _; rfl) : QS X N (.For tg iter sa [] pos) (sFor mi mg mS) := let ⟨_, p', q⟩ := hi; let ⟨_, p2, q2⟩ := hg; let ⟨_, p3, q3⟩ := ha; ⟨_, ps_for hp hc p' p2 p3 hs, rs_for q q2 q3 hpin⟩
theorem qs_asg (he : QE X N st e m) (hg : QG X N ws tg mg) (hpin : gOk ws N.pin = true := by rfl) (hs : swapsWithSole [tg] e pos.line X.env = pure false := by rfl) (hw : swappedStores [tg] e X.env = pure none := by rfl) (h1 : (assignEach [tg] X.env).map (·.2) = [assign tg X.env] := by rfl) : QS X N (.Assign [tg] e pos) (sAsg mg m) := let ⟨_, p', q⟩ := he; let ⟨_, p2, q2⟩ := hg; ⟨_, ps_asg p' p2 hs hw h1, rs_asg q q2 hpin⟩
theorem qs_set {i : Nat} {x : Str} {pos' : Pos} (he : QE X N st e m) (hN : X.N.Nodup) (hpin : gOk [i] N.pin = true := by rfl) (hi : X.N[i]? = some x := by rfl) (hx : Loc X.env.scope x := by first | exact Or.inl rfl | exact Or.inr rfl) (hs : swapsWith e (some (.Name x pos')) pos.line X.env = pure false := by rfl) (hf : X.fn x = true ∨ X.env.scope.names.lookup x = some .local := by first | exact .inl rfl | exact .inr rfl) :
    QS X N (.Assign [.Name x pos'] e pos) (sAsg (gN i) m) := let ⟨_, p', q⟩ := he; ⟨_, ps_set hN hi hx p' hs hf, rs_asg q rg_n hpin⟩
theorem qs_par {i j : Nat} {x y : Str} {px py pt pt2 : Pos} {kt k2 : Nat} (ha : QA X N st [a, b] ms) (hN : X.N.Nodup) (hij : i ≠ j := by decide) (hpin : gOk [i, j] N.pin = true := by rfl) (hi : X.N[i]? = some x := by rfl) (hj : X.N[j]? = some y := by rfl)
    (hx : X.env.scope.names.lookup x = some .local := by rfl) (hy : X.env.scope.names.lookup y = some .local := by rfl) (hc : X.calm = true := by rfl)
    (hw : swappedStores [.Tuple [.Name x px, .Name y py] kt pt] (.Tuple [a, b] k2 pt2) X.env = pure (some [x, y]) := by rfl)
    (hs : swapsWithSole [.Tuple [.Name x px, .Name y py] kt pt] (.Tuple [a, b] k2 pt2) pos.line X.env = pure false := by rfl) :
    QS X N (.Assign [.Tuple [.Name x px, .Name y py] kt pt] (.Tuple [a, b] k2 pt2) pos) (sPar i j ms) := let ⟨_, p', q⟩ := ha; ⟨_, ps_par hc hN hi hj hij hx hy p' hw hs, rs_par q hpin⟩
/-! three at once -/
def setsE : Env → List Nat → List D → Env
  | env, i :: is, d :: ds => setsE (env.set i (some d)) is ds
  | env, _, _ => env
def sPar3 (i j l : Nat) (m : ML) : MS := fun env => (m env).bind fun ds e => match ds with | [d1, d2, d3] => .ok .nx (((e.set i (some d1)).set j (some d2)).set l (some d3)) | _ => .no
/-! x op= e, on ints -/
def gAdd (a b : Int) : Option D := some (.int (a + b))
def gSub (a b : Int) : Option D := some (.int (a - b))
def gDiv (a b : Int) : Option D := if 0 < b ∧ b.natAbs.log2 < 9000 then some (.int (a / b)) else none
theorem qs_put {pl : Plc} {pos' : Pos} (hu : X.A.units + 64 < cLine) (he : QE X N s1 e m) (hp : QP X N o pl) (hi : QT X N s2 b n) (hst : plcSt pl s2 = true := by rfl) (hs : swapsWithSole [.Subscript o b pos'] e pos.line X.env = pure false := by rfl) (hw : swappedStores [.Subscript o b pos'] e X.env = pure none := by rfl) (h1 : (assignEach [.Subscript o b pos'] X.env).map (·.2) = [assign (.Subscript o b pos') X.env] := by rfl)
    (ha : ∀ v, assign (.Subscript o b pos') X.env v = (do
      let ov ← holding [v] (eval o X.env)
      let iv ← holding [v, ov] (eval b X.env)
      standAt pos'
      holding [v, ov, iv] (setItem ov iv v)
      release [v, ov, iv] []) := by intro _; rfl) :
    QS X N (.Assign [.Subscript o b pos'] e pos) (sPut pl m n) := by
  obtain ⟨t, p', q⟩ := he
  obtain ⟨t2, p2, q2⟩ := hi
  exact ⟨_, ps_asg p' (pg_sub hp.1 p2 (o_set hu) ha) hs hw h1, rs_put hp.2 q q2 hst⟩
end
/-! ### defs -/
theorem spM_len {C : Ct} {xc : Bool} {io : List Bool} {f : Fun} {n : Nat} (h : io.length = n) : ∀ vs H Q E, spM C xc io f vs H Q E → vs.length = n := fun vs H Q E ⟨_, _, _, h1, _⟩ => h1.trans h
section
variable {P : Program} {w : World} {K : PySem.W.Frag} {mg : Str → Option Value} {base : Heap} {k : Nat} {Ns ps : List Str} {stm : Stmt} {f : Addr} {fd : FuncData} {io : List Bool} {cls : String → Option Addr} {m : MS} {n : Nat}
/-- the body of a def, against its mirror -/
def QBody (P : Program) (w : World) (K : PySem.W.Frag) (mg : Str → Option Value) (base : Heap) (cls : String → Option Addr) (Ω : List (Addr × Str)) (k : Nat) (qual : Str) (stm : Stmt) (f : Addr) (Ns : List Str) (io : List Bool) (m : MS) : Prop :=
  ∀ (cdv : Value) (A : Around) (outer : List PySem.Env) (s : Shared) (H : Hp) (E : XK), Rm k (A.deeper (envOfC qual (defScope stm) s.heap.objs.size f cdv)) →
    QSs (cxOf CX0 P w K mg base Ns qual (defScope stm) f cdv A outer s H E).nox ⟨⟨K, cls, P, w, Ω⟩, none, pinOf io 0⟩ (defBody stm) m
theorem cal_M {x : Str} (F : At K mg x stm f fd) (b : Binds K fd ps []) (S : FnScope Ns ps (defScope stm)) (hio : io.length = ps.length) (hn : Ns.length = io.length + n) (h : QBody P w K mg base cls Ω k x stm f Ns io m) :
    Cal P w K mg base CX0 (k + 1) x ps (spM ⟨K, cls, P, w, Ω⟩ false io (fnOf n io m)) :=
  cal_mk F b S (spM_len hio) (body_M hn h)
/-- what stands, but the tables -/
def Zn (H : Hp) : Hp := fun a => match H a with | some (.tbl _) => none | o => o
theorem zn_at {H : Hp} {a : Addr} {o : HO} (e : H a = some o) (n : ∀ ps, o ≠ .tbl ps) : Zn H a = some o := by
  unfold Zn
  rw [e]
  cases o with
  | tbl ps => exact absurd rfl (n ps)
  | _ => rfl
theorem zn_same {H : Hp} : Same (Zn H) H := fun a o e => by
  unfold Zn at e
  split at e
  · cases e
  · exact e
theorem zn_tbl {H : Hp} (a : Addr) (ps : Array Value) : Zn H a ≠ some (.tbl ps) := fun e => by
  have h := zn_same a _ e
  unfold Zn at e
  rw [h] at e
  cases e
theorem zn_seq {K : PySem.W.Frag} {H : Hp} {a : Addr} {xs : List V} (h : SqL K H a xs) : SqL K (Zn H) a xs := by
  rcases h with h | h
  · rcases h with h | ⟨o, h⟩
    · exact .inl (.inl (zn_at h fun ps z => by cases z))
    · exact .inl (.inr ⟨o, zn_at h fun ps z => by cases z⟩)
  · exact .inr h
theorem ok_nilT {Ω : List (Addr × Str)} {H : Hp} (t : Tabs Ω H) : Ok Ω (Zn H) H [] := ⟨zn_same, (fun a ha => nomatch ha), List.nodup_nil, (fun a ha => nomatch ha), (fun a ha => nomatch ha), zn_tbl, t⟩
theorem ok_nil {H : Hp} : Ok [] (Zn H) H [] := ok_nilT fun p hp => nomatch hp
/-- the law itself -/
theorem law_M {f0 : Fun} (c : FnG P w K mg base CX0 k f fd ["_law_script"] (spM ⟨K, cls, P, w, []⟩ false [false] f0)) (h : ∀ ns : List Int, ns.length ≤ 63 → f0 [.scr (ns.map .int)] = .ok (.bl true) []) : FnG P w K mg base CX0 k f fd ["_law_script"] (spLaw K) := by
  refine ⟨fun vs H Q E hs => ?_, fun A outer s H args us vs Q E hr e0 hb rv hs => ?_⟩
  · obtain ⟨a, ns, rfl, _⟩ := hs
    rfl
  · obtain ⟨a, ns, rfl, hO, hS, hl, q⟩ := hs
    refine c.run A outer s H args us [.ref a] Q E hr e0 hb rv ⟨[.scr (ns.map .int)], Zn H, [], rfl, ?_, ok_nil, ?_⟩
    · refine RdL.cons0 ?_ RdL.nil0
      rw [RdV]
      exact ⟨rfl, a, _, rfl, zn_seq hS, RdL.ofInts⟩
    · rw [h ns hl]
      intro v Z' H' Fv Fi x rvv ri
      rw [rvv.blI]
      exact q H'
end
end Mi
set_option maxHeartbeats 4000000
namespace Mi
open PySem PySem.Spec PyProof.Rows L2 RZ Ov PpSet
section
variable {X : Cx} {N : Cn} {st s1 s2 s3 : Bool} {a b c e o tg : Expr} {es : List Expr} {m n l : ME} {pos apos cpos p : Pos} {ms : ML} {as : List Arg}
/-- a name whose value is kept: frozen, if it is not yet -/
def eVk (i : Nat) : ME := fun env => match env[i]? with | some (some d) => if fzn d then .ok d env else .ok (fz d) (env.set i (some (fz d))) | _ => .no
theorem re_vk {i : Nat} : RefE N true (tVar i) (eVk i) := fun env σ Z H F Q o r w => by
  unfold eVk at w
  cases he : env[i]? with
  | none => simp only [he] at w; exact w.elim
  | some y =>
  cases y with
  | none => simp only [he] at w; exact w.elim
  | some d =>
  simp only [he] at w
  by_cases q : fzn d = true
  · rw [if_pos q] at w
    refine re_k (rt_v (i := i)) env σ Z H F Q o r ?_
    unfold eK eV
    simp only [he, R.bind_ok, q, if_true]
    exact w
  · rw [if_neg q] at w
    refine re_vz (i := i) env σ Z H F Q o r ?_
    unfold eVz
    simp only [he]
    exact w
theorem qvk (i : Nat) {x : Str} (hN : X.N[i]? = some x := by rfl) (hv : Vis X.env.scope x := by first | exact Or.inl rfl | exact Or.inr (Or.inl rfl) | exact Or.inr (Or.inr rfl)) (hd : (x == ("__debug__" : Str)) = false := by decide) (hcd : (x == ("__classdict__" : Str)) = false := by decide) :
    QE X N true (.Name x pos) (eVk i) := ⟨_, pe_var hN hv hd hcd, re_vk⟩
def eFk (m : ME) : ME := fun env => (m env).bind fun d e => .ok (if fzn d then d else fz d) e
mutual
theorem fz_same : ∀ d : D, fzn d = true → fz d = d
  | .non, _ => rfl
  | .bl _, _ => rfl
  | .int _, _ => rfl
  | .str _, _ => rfl
  | .tup ds, h => by rw [fz, fz_sameL ds (by simpa [fzn] using h)]
  | .lst o ds, h => by
    simp only [fzn, Bool.and_eq_true, Bool.not_eq_true'] at h
    rw [fz, fz_sameL ds h.2, h.1]
  | .dct o ds, h => by
    simp only [fzn, Bool.and_eq_true, Bool.not_eq_true'] at h
    rw [fz, fz_sameK ds h.2, h.1]
  | .ins o c ds, h => by
    simp only [fzn, Bool.and_eq_true, Bool.not_eq_true'] at h
    rw [fz, fz_sameF ds h.2, h.1]
  | .set xs, _ => rfl
  | .scr ds, h => by rw [fz, fz_sameL ds (by simpa [fzn] using h)]
  | .exn c fs, h => by rw [fz, fz_sameF fs (by simpa [fzn] using h)]
  | .fnc f a q ds vs, h => by rw [fz, fz_sameL ds (by simpa [fzn] using h)]
  | .dcg o ds, h => by
    simp only [fzn, Bool.and_eq_true, Bool.not_eq_true'] at h
    rw [fz, fz_sameK ds h.2, h.1]
theorem fz_sameL : ∀ ds : List D, fznL ds = true → fzL ds = ds
  | [], _ => rfl
  | d :: ds, h => by
    simp only [fznL, Bool.and_eq_true] at h
    rw [fzL, fz_same d h.1, fz_sameL ds h.2]
theorem fz_sameK : ∀ ds : List (D × D), fznK ds = true → fzK ds = ds
  | [], _ => rfl
  | (k, d) :: ds, h => by
    simp only [fznK, Bool.and_eq_true] at h
    rw [fzK, fz_same d h.1, fz_sameK ds h.2]
theorem fz_sameF : ∀ ds : List (String × D), fznF ds = true → fzF ds = ds
  | [], _ => rfl
  | (k, d) :: ds, h => by
    simp only [fznF, Bool.and_eq_true] at h
    rw [fzF, fz_same d h.1, fz_sameF ds h.2]
end
theorem fk_fz : eFk m = eFz m := by
  funext env
  unfold eFk eFz
  cases m env with
  | ok d e =>
    simp only [R.bind_ok]
    by_cases q : fzn d = true
    · rw [if_pos q, fz_same d q]
    · rw [if_neg q]
  | ex => rfl
  | no => rfl
theorem QE.fk (h : QE X N st e m) : QE X N st e (eFk m) := by rw [fk_fz]; exact h.fz
/-! ### methods and classes by the class's name -/
variable {k j i : Nat} {cn mn : String} {x : Str} {ps : List Str} {io : List Bool} {f : Fun} {xc : Bool} {pl : Sem Bool}
end
theorem with_ag {X : Cx} {N : Cn} {ss : List Stmt} {m : MS} (ag : Ag X N) (h : Ag X N → QSs X N ss m) : QSs X N ss m := h ag
/-! ### arguments that do not come back -/
def subIo : List Bool → List Bool → List D → List D
  | true :: io, b :: io', d :: ds => if b then d :: subIo io io' ds else subIo io io' ds
  | false :: io, _ :: io', ds => subIo io io' ds
  | _, _, _ => []
/-- io' keeps some of io's -/
def subOk : List Bool → List Bool → Bool
  | [], [] => true
  | a :: r, b :: r' => (a || !b) && subOk r r'
  | _, _ => false
def fDrop (io io' : List Bool) (f : Fun) : Fun := fun ds => match f ds with
  | .ok d ios => .ok d (subIo io io' ios)
  | .ex x ios => .ex x (subIo io io' ios)
  | .no => .no
theorem RdL.subIo {C : Ct} {Z H : Hp} : ∀ {io io' : List Bool} {vs : List V} {ios : List D} {F : List Addr}, subOk io io' = true → RdL C Z H ios (pick io vs) F → vs.length = io.length → ∃ F', F'.Sublist F ∧ RdL C Z H (Mi.subIo io io' ios) (pick io' vs) F'
  | [], [], vs, ios, F, h, r, l => by
    cases vs with
    | nil => exact ⟨[], List.nil_sublist _, by simp [Mi.subIo, pick, RdL]⟩
    | cons => simp at l
  | [], _ :: _, vs, ios, F, h, r, l => by simp [subOk] at h
  | _ :: _, [], vs, ios, F, h, r, l => by simp [subOk] at h
  | a :: io, b :: io', [], ios, F, h, r, l => by simp at l
  | false :: io, b :: io', v :: vs, ios, F, h, r, l => by
    simp only [subOk, Bool.false_or, Bool.and_eq_true, Bool.not_eq_true'] at h
    obtain ⟨rfl, h⟩ := h
    rw [pick] at r
    obtain ⟨F', s, r'⟩ := RdL.subIo h r (by simpa using l)
    refine ⟨F', s, ?_⟩
    rw [pick]
    cases ios <;> exact r'
  | true :: io, b :: io', v :: vs, ios, F, h, r, l => by
    simp only [subOk, Bool.true_or, Bool.true_and] at h
    rw [pick] at r
    cases ios with
    | nil => rw [RdL] at r; simp at r
    | cons d ios =>
      rw [RdL] at r
      obtain ⟨v', s', F1, F2, e, rfl, r1, r2⟩ := r
      cases e
      obtain ⟨F', s, r'⟩ := RdL.subIo h r2 (by simpa using l)
      cases b with
      | true =>
        refine ⟨F1 ++ F', List.Sublist.append_left s F1, ?_⟩
        rw [pick, Mi.subIo, if_pos rfl, RdL]
        exact ⟨v, _, F1, F', rfl, rfl, r1, r'⟩
      | false =>
        refine ⟨F', s.trans (List.sublist_append_right ..), ?_⟩
        rw [pick, Mi.subIo, if_neg Bool.false_ne_true]
        exact r'
theorem subOk_len : ∀ {io io' : List Bool}, subOk io io' = true → io.length = io'.length
  | [], [], _ => rfl
  | _ :: r, _ :: r', h => by simp only [subOk, Bool.and_eq_true] at h; simp [subOk_len h.2]
  | [], _ :: _, h => by simp [subOk] at h
  | _ :: _, [], h => by simp [subOk] at h
theorem spM_drop {C : Ct} {io io' : List Bool} {f : Fun} (h : subOk io io' = true) {vs : List V} {H : Hp} {Q : VK} {E : XK} (s : spM C false io' (fDrop io io' f) vs H Q E) : spM C false io f vs H Q E := by
  obtain ⟨ds, Z, F, h1, h2, h3, h4⟩ := s
  have hl : vs.length = io.length := h1.trans (subOk_len h).symm
  refine ⟨ds, Z, F, hl, h2, h3, ?_⟩
  unfold fDrop at h4
  cases hf : f ds with
  | no => rw [hf] at h4; exact h4
  | ex x ios => rw [hf] at h4; exact absurd h4.1 Bool.false_ne_true
  | ok d ios =>
    rw [hf] at h4
    intro v Z' H' Fv Fi x rv ri
    obtain ⟨F', sl, r'⟩ := RdL.subIo h ri hl
    refine h4 v Z' H' Fv F' (x.sub (List.nodup_append.mpr ⟨nodup_left x.ok.nd, sl.nodup (nodup_right x.ok.nd), fun a ha b hb e => ?_⟩) fun a ha => ?_) rv r'
    · subst e
      exact x.ok.disj a ha (sl.mem hb)
    · rcases List.mem_append.mp ha with z | z
      · exact List.mem_append_left _ z
      · exact List.mem_append_right _ (sl.mem z)
theorem FnG.imp {P : Program} {w : World} {K : PySem.W.Frag} {mg : Str → Option Value} {base : Heap} {CX : CXT} {k : Nat} {f : Addr} {fd : FuncData} {ps : List Str} {sp sp' : Sp} (F : FnG P w K mg base CX k f fd ps sp) (h : ∀ vs H Q E, sp' vs H Q E → sp vs H Q E) : FnG P w K mg base CX k f fd ps sp' :=
  ⟨fun vs H Q E s => F.len vs H Q E (h _ _ _ _ s), fun A o s H a us vs Q E hr e0 hb rv hs => F.run A o s H a us vs Q E hr e0 hb rv (h _ _ _ _ hs)⟩
theorem Cal.drop {P : Program} {w : World} {K : PySem.W.Frag} {mg : Str → Option Value} {base : Heap} {k : Nat} {x : Str} {ps : List Str} {C : Ct} {io : List Bool} {f : Fun} (io' : List Bool) (c : Cal P w K mg base CX0 k x ps (spM C false io f)) (h : subOk io io' = true := by rfl) : Cal P w K mg base CX0 k x ps (spM C false io' (fDrop io io' f)) := by
  obtain ⟨a, fd, F, r⟩ := c.ex
  exact ⟨a, fd, FnG.imp F fun vs H Q E s => spM_drop h s, r⟩
end Mi
set_option maxHeartbeats 4000000
namespace Mi
open PySem PySem.Spec PyProof.Rows L2 RZ Ov PpSet
/-! ### == : texts and numbers at once, other data by their shape -/
def fEq2 : D → D → Option D
  | .str x, .str y => some (.bl (decide (x = y)))
  | .int x, .int y => some (.bl (decide (x = y)))
  | d, e => fEq d e
def fNe2 : D → D → Option D
  | .str x, .str y => some (.bl (!decide (x = y)))
  | .int x, .int y => some (.bl (!decide (x = y)))
  | d, e => fNe d e
def rEqU (K : PySem.W.Frag) : R2 := fun x y H Q => rEqD K x y H Q ∨ rEq x y H Q
def rNeU (K : PySem.W.Frag) : R2 := fun x y H Q => rNeD K x y H Q ∨ rNe x y H Q
theorem o_eqU {X : Cx} (K : PySem.W.Frag) (hu : X.A.units + 64 < cLine) (h : X.K = K := by rfl) : OpR X (compareOp .Eq) (rEqU K) := OpR.or (k_eqD K hu h) op_eq
theorem o_neU {X : Cx} (K : PySem.W.Frag) (hu : X.A.units + 64 < cLine) (h : X.K = K := by rfl) : OpR X (compareOp .NotEq) (rNeU K) := OpR.or (k_neD K hu h) op_ne
theorem f_eq2 {C : Ct} : Fn2 C (rEqU C.K) fEq2 := by
  intro d v Fd d' v' Fd' Z H F Q e o rd rd' hf p
  unfold fEq2 at hf
  split at hf
  · cases hf
    refine .inr ⟨by rw [rd.strI, rd'.strI]; rfl, ?_⟩
    rw [rd.strI, rd'.strI]
    have := post_val (Q := Q) o p rd_bl
    simpa using this
  · cases hf
    refine .inr ⟨by rw [rd.intI, rd'.intI]; rfl, ?_⟩
    rw [rd.intI, rd'.intI]
    have := post_val (Q := Q) o p rd_bl
    simpa using this
  · exact .inl (f_eq d v Fd d' v' Fd' Z H F Q e o rd rd' hf p)
theorem f_ne2 {C : Ct} : Fn2 C (rNeU C.K) fNe2 := by
  intro d v Fd d' v' Fd' Z H F Q e o rd rd' hf p
  unfold fNe2 at hf
  split at hf
  · cases hf
    refine .inr ⟨by rw [rd.strI, rd'.strI]; rfl, ?_⟩
    rw [rd.strI, rd'.strI]
    have := post_val (Q := Q) o p rd_bl
    simpa using this
  · cases hf
    refine .inr ⟨by rw [rd.intI, rd'.intI]; rfl, ?_⟩
    rw [rd.intI, rd'.intI]
    have := post_val (Q := Q) o p rd_bl
    simpa using this
  · exact .inl (f_ne d v Fd d' v' Fd' Z H F Q e o rd rd' hf p)
end Mi
set_option maxHeartbeats 4000000
namespace Mi
open PySem PySem.Spec PyProof.Rows L2 RZ Ov PpSet
noncomputable def b_l_take : MS :=
  (sSeq (sIf (bB (e2 fGt (e2 fIx (eV 0) (eC (.int 0))) (eC (.int 0)))) (sSeq (sAsg (gN 2) (e2 fMod (e2 fIx (eV 0) (eC (.int 0))) (eV 1)))
  (sSeq (sPut (0, none) (eFk (e2 fDiv (e2 fIx (eV 0) (eC (.int 0))) (eV 1))) (eC (.int 0)))
  (sRet (eMv 2)))) sPass)
  (sSeq (sPut (0, none) (eFk (e2 fAdd (e2 fIx (eV 0) (eC (.int 2))) (eC (.int 1)))) (eC (.int 2)))
  (sSeq (sAsg (gN 3) (e2 fMod (e2 fMul (e2 fAdd (e2 fAdd (e2 fIx (eV 0) (eC (.int 1))) (e2 fMul (e2 fMul (eC (.int 65537)) (e2 fIx (eV 0) (eC (.int 2)))) (e2 fIx (eV 0) (eC (.int 2))))) (eC (.int 11))) (eC (.int 48271))) (eC (.int 2305843009213693921))))
  (sSeq (sAsg (gN 3) (e2 fMod (e2 fMul (eV 3) (e2 fAdd (e2 fMod (eV 3) (eC (.int 1000003))) (e2 fMul (eC (.int 99991)) (e2 fIx (eV 0) (eC (.int 2)))))) (eC (.int 2305843009213693907))))
  (sRet (e2 fMod (e2 fAdd (e2 fDiv (eV 3) (eC (.int 97))) (e2 fDiv (eV 3) (eC (.int 1000033)))) (eV 1)))))))
noncomputable def m_l_take : Fun := fnOf 2 [true, false] b_l_take
noncomputable def b_l_box : MS :=
  (sSeq (sAsg (gN 2) (eIf (bB (e2 fLt (eV 1) (eL fLen (lCons (eV 0) lNil)))) (eK (e2 fIx (eV 0) (eV 1))) (eC (.int 0))))
  (sSeq (sAsg (gN 3) (e2 fMul (e2 fMod (eL fAbs (lCons (eV 2) lNil)) (e2 fMul (e2 fMul (e2 fMul (e2 fPow (eC (.int 10)) (eC (.int 60))) (e2 fPow (eC (.int 10)) (eC (.int 60)))) (e2 fPow (eC (.int 10)) (eC (.int 60)))) (e2 fPow (eC (.int 10)) (eC (.int 60))))) (eL fInt (lCons (e2 fGe (eL fAbs (lCons (eV 2) lNil)) (e2 fPow (eC (.int 10)) (eC (.int 18)))) lNil))))
  (sRet (eLst (lCons (eVk 3) (lCons (e2 fMod (e2 fMul (e2 fAdd (e2 fAdd (e2 fMod (eV 2) (eC (.int 2305843009213693951))) (e2 fMul (e2 fMul (eC (.int 7919)) (eV 1)) (eV 1))) (eC (.int 43))) (eC (.int 48271))) (eC (.int 2305843009213693921))) (lCons (eC (.int 0)) lNil)))))))
noncomputable def m_l_box : Fun := fnOf 2 [false, false] b_l_box
end Mi
set_option maxHeartbeats 4000000
namespace L2
open PySem PySem.Spec PyProof.Rows
end L2
set_option maxHeartbeats 4000000
namespace Mi
open PySem PySem.Spec PyProof.Rows L2 RZ Ov PpSet
section
variable {X : Cx} {N : Cn} {st : Bool}
/-! ### names = values, through a tuple that nobody keeps -/
def sParN (is : List Nat) (m : ML) : MS := fun env => (m env).bind fun ds e => if ds.length = is.length ∧ ds.length ≤ sizeLine then .ok .nx (setsE e is ds) else .no
/-! ### a, b, c = a list -/
def gUL (gs : MGs) : MG := fun d env => match d with | .lst _ ds => if fznL ds then gs ds env else none | _ => none
theorem rg_u {ws : List Nat} {n : Nat} {gs : TGs} {ms : MGs} (h : RefGs N ws n gs ms) : RefG N ws (gUnl N.C.K n gs) (gUL ms) := fun env σ Z H F Fv d v Q env' o r rv e k => by
  cases d with
  | lst b ds =>
    have e : (if fznL ds then ms ds env else none) = some env' := e
    by_cases q : fznL ds = true
    · rw [if_pos q] at e
      obtain ⟨a, vs, G, rfl, h1, h2⟩ := rv.lstD o.zh rfl
      have h3 := h2.nof q
      have o1 : Ok N.C.T Z H F := o.sub (nodup_right o.nd) fun a ha => List.mem_append_right _ ha
      refine ⟨a, vs, rfl, h1, by rw [← h2.length]; exact h.len ds env env' e, ?_⟩
      exact h.run env σ Z H F ds vs Q env' o1 r h3 e fun σ' F' g1 g2 g3 g4 => k σ' F' g1 (fun a ha => List.mem_append_right _ (g2 a ha)) g3 g4
    · rw [if_neg q] at e
      cases e
  | _ => cases e
theorem qg_u {ws : List Nat} {es : List Expr} {mgs : MGs} {pos : Pos} {k nn : Nat} (ag : Ag X N) (h : QGs X N ws nn es mgs) (hc : X.calm = true := by rfl) (hn : (assignEach es X.env).length = nn := by rfl) (hst : (assignEach es X.env).findIdx? (·.1) = none := by rfl) : QG X N ws (.Tuple es k pos) (gUL mgs) := by
  obtain ⟨_, p', q⟩ := h
  have := pg_unl (X := X) (pos := pos) (k := k) hc p' hn hst
  rw [ag.K] at this
  exact ⟨_, this, rg_u q⟩
end
end Mi
set_option maxHeartbeats 4000000
namespace Mi
open PySem PySem.Spec PyProof.Rows L2 RZ Ov PpSet
/-! ### defaults -/
section
variable {X : Cx} {N : Cn} {st : Bool}
structure CalD (P : Program) (w : World) (K : PySem.W.Frag) (mg : Str → Option Value) (base : Heap) (CX : CXT) (k : Nat) (x : Str) (ps : List Str) (dvs : List V) (sp : Sp) : Prop where
  ex : ∃ (f : Addr) (fd : FuncData), FnG P w K mg base CX k f fd ps sp ∧ mg x = some (.ref f) ∧ PySem.W.keepIn K (.ref f) = true ∧ ∃ ds, Vals dvs ds ∧ Binds K fd ps ds
end
end Mi
set_option maxHeartbeats 4000000
set_option maxHeartbeats 4000000
set_option maxHeartbeats 4000000
namespace HT
open PySem PySem.Spec PyProof.Rows
end HT
set_option maxHeartbeats 4000000
namespace Mi
open PySem PySem.Spec PyProof.Rows L2 RZ Ov PpSet
/-! ### repr of tuples and dicts -/
def kPy : Key → PyData
  | .inl i => .int i
  | .inr x => .str x
mutual
inductive Dq (K : PySem.W.Frag) (H : Hp) : V → PyData → Prop
  | non : Dq K H .non .none
  | bl (b : Bool) : Dq K H (.bl b) (.bool b)
  | int (i : Int) : Dq K H (.int i) (.int i)
  | str (x : Str) : Dq K H (.str x) (.str x)
  | tup {a : Addr} {xs : List V} {ds : List PyData} : SqT K H a xs → DqA K H xs ds → Dq K H (.ref a) (.tuple ds)
  | dct {a : Addr} {us : List (Key × V)} {kvs : List (PyData × PyData)} : H a = some (.dK us) → DqK K H us kvs → Dq K H (.ref a) (.dict kvs)
inductive DqA (K : PySem.W.Frag) (H : Hp) : List V → List PyData → Prop
  | nil : DqA K H [] []
  | cons {v : V} {vs : List V} {d : PyData} {ds : List PyData} : Dq K H v d → DqA K H vs ds → DqA K H (v :: vs) (d :: ds)
inductive DqK (K : PySem.W.Frag) (H : Hp) : List (Key × V) → List (PyData × PyData) → Prop
  | nil : DqK K H [] []
  | cons {k : Key} {v : V} {us : List (Key × V)} {d : PyData} {kvs : List (PyData × PyData)} : Dq K H v d → DqK K H us kvs → DqK K H ((k, v) :: us) ((kPy k, d) :: kvs)
end
section
variable {X : Cx} {pins : List (Addr × Obj)} {σ : L2.St} {H : Hp} {s : Shared}
theorem key_reads {k : Key} {u : Value} {h : Heap} (e : keyIs k u = true) : Reads h u (kPy k) [] := by
  rcases keyIs_shape e with ⟨i, t, rfl, rfl⟩ | ⟨x, t, rfl, rfl⟩
  · exact Reads.int i t
  · exact Reads.str x t
mutual
theorem Dq.reads (I : Inv X pins σ H s) : ∀ (d : PyData) (v : V) (u : Value), Dq X.K H v d → RelV v u → ∃ as, Reads s.heap u d as ∧ sysModules ∉ as
  | .none, _, _, h, r => by cases h; cases r; exact ⟨_, Reads.none, by simp⟩
  | .bool b, _, _, h, r => by cases h; cases r; exact ⟨_, Reads.bool b, by simp⟩
  | .int i, _, _, h, r => by cases h; obtain ⟨t, rfl⟩ := r; exact ⟨_, Reads.int i t, by simp⟩
  | .str x, _, _, h, r => by cases h; obtain ⟨t, rfl⟩ := r; exact ⟨_, Reads.str x t, by simp⟩
  | .list ds, _, _, h, r => by cases h
  | .tuple ds, _, _, h, r => by
    cases h with
    | tup hs ha =>
      cases r
      obtain ⟨its, rv, ⟨o, ho, hc, n, hd⟩, _⟩ := I.tuple hs
      obtain ⟨as, hr, hn⟩ := DqA.reads I ds _ its ha rv
      exact ⟨_, Reads.tuple ho hc hd hr, hn⟩
  | .dict kvs, _, _, h, r => by
    cases h with
    | @dct a us _ hs ha =>
      cases r
      obtain ⟨_, hne, vs, kv, o, es, ep, ho, hex, hd, _, pr, _⟩ := dk_of I.hok hs
      obtain ⟨as, bs, r1, r2, n1, n2⟩ := DqK.reads I kvs us vs es.toList ha kv pr
      refine ⟨_, Reads.dict ho hex.1 hd r1 r2, ?_⟩
      simp only [List.cons_append, List.mem_cons, List.mem_append, not_or]
      exact ⟨fun e => by rw [← e] at hne; simp at hne, n1, n2⟩
theorem DqA.reads (I : Inv X pins σ H s) : ∀ (ds : List PyData) (vs : List V) (us : List Value), DqA X.K H vs ds → Vals vs us → ∃ as, ReadsAll s.heap us ds as ∧ sysModules ∉ as
  | [], _, _, h, r => by cases h; cases r; exact ⟨_, ReadsAll.nil, by simp⟩
  | d :: ds, _, _, h, r => by
    cases h with
    | cons h1 h2 =>
      cases r with
      | cons r1 r2 =>
        obtain ⟨as, q1, n1⟩ := Dq.reads I d _ _ h1 r1
        obtain ⟨bs, q2, n2⟩ := DqA.reads I ds _ _ h2 r2
        exact ⟨_, ReadsAll.cons q1 q2, by simp only [List.mem_append, not_or]; exact ⟨n1, n2⟩⟩
theorem DqK.reads (I : Inv X pins σ H s) : ∀ (kvs : List (PyData × PyData)) (us : List (Key × V)) (vs : List (Key × Value)) (es : List DictEntry), DqK X.K H us kvs → KV us vs → Pairs (mixKind X.prog X.w) es vs →
    ∃ as bs, ReadsAll s.heap (es.map (·.key)) (kvs.map (·.1)) as ∧ ReadsAll s.heap (es.map (·.val)) (kvs.map (·.2)) bs ∧ sysModules ∉ as ∧ sysModules ∉ bs
  | [], _, _, _, h, kv, pr => by
    cases h
    unfold KV at kv
    cases kv
    cases pr
    exact ⟨_, _, ReadsAll.nil, ReadsAll.nil, by simp, by simp⟩
  | (k, d) :: kvs, _, _, _, h, kv, pr => by
    cases h with
    | cons h1 h2 =>
      unfold KV at kv
      cases kv with
      | @cons _ q _ vs rr kv =>
        cases pr with
        | cons p1 p2 p3 =>
          obtain ⟨as, q1, n1⟩ := Dq.reads I d _ _ h1 rr.2
          obtain ⟨as', bs', q2, q3, n2, n3⟩ := DqK.reads I kvs _ _ _ h2 kv p3
          rw [← rr.1] at p1
          refine ⟨_, _, ReadsAll.cons (key_reads p1) q2, ReadsAll.cons (p2 ▸ q1) q3, by simpa using n2, by simp only [List.mem_append, not_or]; exact ⟨n1, n3⟩⟩
end
end
end Mi
set_option maxHeartbeats 4000000
set_option maxHeartbeats 4000000
set_option maxHeartbeats 4000000
namespace HT
open PySem PySem.Spec PyProof.Rows
end HT
set_option maxHeartbeats 4000000
namespace HT
open PySem PySem.Spec PyProof.Rows
open Sem (wp)
open AutoSeq1 (wpAny_loadPart')
/-! ### enumerate(tuple) -/
end HT
set_option maxHeartbeats 4000000
set_option maxHeartbeats 4000000
namespace Mi
open PySem PySem.Spec PyProof.Rows L2 RZ Ov PpSet
/-! ### d.values(), d.items() walked: the dict is locked for good, its name forgotten -/
section
variable {N : Cn} {C : Ct} {Z H : Hp} {F : List Addr}
theorem RdK.at : ∀ {kvs : List (D × D)} {us : List (Key × V)} {j : Nat}, RdK C Z H kvs us [] → j < us.length → ∃ q v d, us[j]? = some (q, v) ∧ kvs[j]? = some (kD q, d) ∧ RdV C Z H d v []
  | [], us, j, h, hj => by rw [RdK] at h; rw [h.1] at hj; simp at hj
  | (k, d) :: r, us, j, h, hj => by
    rw [RdK] at h
    obtain ⟨q, v, s, F1, F2, rfl, e, rfl, h1, h2⟩ := h
    obtain ⟨rfl, rfl⟩ := List.append_eq_nil_iff.mp e.symm
    cases j with
    | zero => exact ⟨q, v, d, rfl, rfl, h1⟩
    | succ j => exact RdK.at (j := j) h2 (by simpa using hj)
theorem RdK.len : ∀ {kvs : List (D × D)} {us : List (Key × V)} {F : List Addr}, RdK C Z H kvs us F → us.length = kvs.length
  | [], us, F, h => by rw [RdK] at h; rw [h.1]; rfl
  | (k, d) :: r, us, F, h => by
    rw [RdK] at h
    obtain ⟨q, v, s, F1, F2, rfl, e, rfl, h1, h2⟩ := h
    simp [RdK.len h2]
end
/-! ### d.setdefault(k, []).append(v): d, k, v names -/
end Mi
set_option maxHeartbeats 4000000
set_option maxHeartbeats 4000000
set_option maxHeartbeats 4000000
set_option maxHeartbeats 4000000
set_option maxHeartbeats 4000000
set_option maxHeartbeats 4000000
set_option maxHeartbeats 4000000
set_option maxHeartbeats 4000000
set_option maxHeartbeats 4000000
set_option maxHeartbeats 4000000
namespace Mi
open PySem PySem.Spec PyProof.Rows L2 RZ Ov PpSet
/-! ### repr of data with lists, tuples and dicts -/
mutual
inductive Dr (K : PySem.W.Frag) (H : Hp) : V → PyData → Prop
  | non : Dr K H .non .none
  | bl (b : Bool) : Dr K H (.bl b) (.bool b)
  | int (i : Int) : Dr K H (.int i) (.int i)
  | str (x : Str) : Dr K H (.str x) (.str x)
  | tup {a : Addr} {xs : List V} {ds : List PyData} : SqT K H a xs → DrA K H xs ds → Dr K H (.ref a) (.tuple ds)
  | lst {a : Addr} {xs : List V} {ds : List PyData} : SqL K H a xs → DrA K H xs ds → Dr K H (.ref a) (.list ds)
  | dct {a : Addr} {us : List (Key × V)} {kvs : List (PyData × PyData)} : H a = some (.dK us) → DrK K H us kvs → Dr K H (.ref a) (.dict kvs)
inductive DrA (K : PySem.W.Frag) (H : Hp) : List V → List PyData → Prop
  | nil : DrA K H [] []
  | cons {v : V} {vs : List V} {d : PyData} {ds : List PyData} : Dr K H v d → DrA K H vs ds → DrA K H (v :: vs) (d :: ds)
inductive DrK (K : PySem.W.Frag) (H : Hp) : List (Key × V) → List (PyData × PyData) → Prop
  | nil : DrK K H [] []
  | cons {k : Key} {v : V} {us : List (Key × V)} {d : PyData} {kvs : List (PyData × PyData)} : Dr K H v d → DrK K H us kvs → DrK K H ((k, v) :: us) ((kPy k, d) :: kvs)
end
section
variable {X : Cx} {pins : List (Addr × Obj)} {σ : L2.St} {H : Hp} {s : Shared}
open PyData (shownAll showableAll depthAll)
/-- v is told as d within the heap: by which objects, and how deep -/
structure Tl (X : Cx) (s : Shared) (u : Value) (d : PyData) (bs as : List Addr) : Prop where
  at_ : ReadAtMost s.heap d.depth bs
  rp : ReprK X.prog X.w bs s.heap d.depth u d.shown
  rd : Reads s.heap u d as
structure TlA (X : Cx) (s : Shared) (us : List Value) (ds : List PyData) (bs as : List Addr) : Prop where
  at_ : ReadAtMost s.heap (PyData.depthAll ds) bs
  rp : ReprAllK X.prog X.w bs s.heap (PyData.depthAll ds) us (shownAll ds)
  rd : ReadsAll s.heap us ds as
theorem ram_nil {h : Heap} {n : Nat} : ReadAtMost h n [] := fun b hb => (List.not_mem_nil hb).elim
theorem TlA.nil : TlA X s [] [] [] [] := ⟨ram_nil, by rw [shownAll]; exact .nil, .nil⟩
theorem TlA.cons {u : Value} {us : List Value} {d : PyData} {ds : List PyData} {b1 a1 b2 a2 : List Addr} (h : Tl X s u d b1 a1) (t : TlA X s us ds b2 a2) : TlA X s (u :: us) (d :: ds) (b1 ++ b2) (a1 ++ a2) := by
  have l1 : d.depth ≤ depthAll (d :: ds) := by rw [depthAll]; exact Nat.le_max_left ..
  have l2 : depthAll ds ≤ depthAll (d :: ds) := by rw [depthAll]; exact Nat.le_max_right ..
  refine ⟨(h.at_.mono l1).append (t.at_.mono l2), ?_, .cons h.rd t.rd⟩
  rw [shownAll]
  exact .cons ((h.rp.more fun q hq => List.mem_append_left b2 hq).level_le l1) (t.rp.more_le (fun q hq => List.mem_append_right b1 hq) l2)
theorem tl_leaf {u : Value} {d : PyData} (h : ReprIs X.prog X.w u d.shown) (r : Reads s.heap u d []) : Tl X s u d [] [] := ⟨ram_nil, .of_is h _ _ _, r⟩
theorem tl_int {i : Int} {t : Tok} (hs : (PyData.int i).showable = true) : Tl X s (.int i t) (.int i) [] [] := tl_leaf (by
  rw [PyData.shown]
  exact ReprIs.int t (by rw [PyData.showable, decide_eq_true_eq] at hs; exact hs)) (.int i t)
theorem tl_str {x : Str} {t : Tok} (hz : (PyData.str x).shown.length ≤ sizeLine) : Tl X s (.str x t) (.str x) [] [] := tl_leaf (by
  rw [PyData.shown] at hz ⊢
  exact ReprIs.str x t hz) (.str x t)
theorem tl_tup {a : Addr} {o : Obj} {its : List Value} {n : Nat} {ds : List PyData} {bs as : List Addr} (e : s.heap.get? a = some o) (hc : o.cls = .type "tuple") (hd : o.data = .seq its.toArray n) (t : TlA X s its ds bs as) : Tl X s (.ref a) (.tuple ds) (a :: bs) as := by
  have r : Reads s.heap (.ref a) (.tuple ds) as := .tuple e hc hd t.rd
  have dp : (PyData.tuple ds).depth = PyData.depthAll ds + 1 := by rw [PyData.depth]
  refine ⟨.cons r (by omega) t.at_, ?_, r⟩
  rw [dp, PyData.shown]
  exact ReprK.tuple e hc hd (not_mem_of_deeper r (by omega) t.at_) t.rp
theorem tl_lst {a : Addr} {o : Obj} {its : List Value} {n : Nat} {ds : List PyData} {bs as : List Addr} (e : s.heap.get? a = some o) (hc : o.cls = .type "list") (hd : o.data = .seq its.toArray n) (t : TlA X s its ds bs as) : Tl X s (.ref a) (.list ds) (a :: bs) (a :: as) := by
  have r : Reads s.heap (.ref a) (.list ds) (a :: as) := .list e hc hd t.rd
  have dp : (PyData.list ds).depth = PyData.depthAll ds + 1 := by rw [PyData.depth]
  refine ⟨.cons r (by omega) t.at_, ?_, r⟩
  rw [dp, PyData.shown]
  cases its with
  | nil =>
    obtain rfl : ds = [] := by cases t.rd; rfl
    rw [shownAll, listText_nil]
    exact ReprK.listEmpty e hc hd
  | cons x l => exact ReprK.list e hc hd (not_mem_of_deeper r (by omega) t.at_) (by have := t.rp.length_eq; simpa using this) (fun i y q => t.rp.item i y (by simpa using q))
theorem tl_dct {a : Addr} {o : Obj} {es : Array DictEntry} {n : Nat} {kvs : List (PyData × PyData)} {b1 a1 b2 a2 : List Addr} (ns : (a == sysModules) = false) (e : s.heap.get? a = some o) (hc : o.cls = .type "dict") (hd : o.data = .dict es n)
    (t1 : TlA X s (es.toList.map (·.key)) (kvs.map (·.1)) b1 a1) (t2 : TlA X s (es.toList.map (·.val)) (kvs.map (·.2)) b2 a2) : Tl X s (.ref a) (.dict kvs) (a :: (b1 ++ b2)) (a :: a1 ++ a2) := by
  have r : Reads s.heap (.ref a) (.dict kvs) (a :: a1 ++ a2) := .dict e hc hd t1.rd t2.rd
  have dp : (PyData.dict kvs).depth = PyData.depthKv kvs + 1 := by rw [PyData.depth]
  have k1 := PyData.depthAll_keys_le kvs
  have k2 := PyData.depthAll_vals_le kvs
  have hb : ReadAtMost s.heap (PyData.depthKv kvs) (b1 ++ b2) := (t1.at_.mono k1).append (t2.at_.mono k2)
  refine ⟨.cons r (by omega) hb, ?_, r⟩
  rw [dp, PyData.shown, PyData.shownKv_eq]
  exact ReprK.dict e hc hd ns (not_mem_of_deeper r (by omega) hb) (ReprEntriesK.of_two es.toList _ _ (t1.rp.more_le (fun q hq => List.mem_append_left b2 hq) k1) (t2.rp.more_le (fun q hq => List.mem_append_right b1 hq) k2))
theorem in_list {ds : List PyData} (h : (PyData.list ds).shown.length ≤ sizeLine) : ∀ t ∈ shownAll ds, t.length ≤ sizeLine := fun t ht => by
  rw [PyData.shown] at h
  exact Nat.le_trans (listText_mem_le ht) h
theorem in_tup {ds : List PyData} (h : (PyData.tuple ds).shown.length ≤ sizeLine) : ∀ t ∈ shownAll ds, t.length ≤ sizeLine := fun t ht => by
  rw [PyData.shown] at h
  exact Nat.le_trans (tupleText_mem_le ht) h
theorem in_keys {kvs : List (PyData × PyData)} (h : (PyData.dict kvs).shown.length ≤ sizeLine) : ∀ t ∈ shownAll (kvs.map (·.1)), t.length ≤ sizeLine := fun t ht => by
  rw [PyData.shown] at h
  obtain ⟨p, hp, hl⟩ := PyData.shownKv_key_le kvs t ht
  exact Nat.le_trans hl (Nat.le_trans (dictText_mem_le hp) h)
theorem in_vals {kvs : List (PyData × PyData)} (h : (PyData.dict kvs).shown.length ≤ sizeLine) : ∀ t ∈ shownAll (kvs.map (·.2)), t.length ≤ sizeLine := fun t ht => by
  rw [PyData.shown] at h
  obtain ⟨p, hp, hl⟩ := PyData.shownKv_val_le kvs t ht
  exact Nat.le_trans hl (Nat.le_trans (dictText_mem_le hp) h)
theorem key_tl {k : Key} {u : Value} (e : keyIs k u = true) (hs : (kPy k).showable = true) (hz : (kPy k).shown.length ≤ sizeLine) : Tl X s u (kPy k) [] [] := by
  rcases keyIs_shape e with ⟨i, t, rfl, rfl⟩ | ⟨x, t, rfl, rfl⟩
  · exact tl_int hs
  · exact tl_str hz
mutual
theorem Dr.told (I : Inv X pins σ H s) : ∀ (d : PyData) (v : V) (u : Value), Dr X.K H v d → RelV v u → d.showable = true → d.shown.length ≤ sizeLine → ∃ bs as, Tl X s u d bs as
  | .none, _, _, h, r, _, _ => by cases h; cases r; exact ⟨_, _, tl_leaf (by rw [PyData.shown]; exact ReprIs.none) .none⟩
  | .bool b, _, _, h, r, _, _ => by cases h; cases r; exact ⟨_, _, tl_leaf (by rw [PyData.shown]; exact ReprIs.bool b) (.bool b)⟩
  | .int i, _, _, h, r, hs, _ => by cases h; obtain ⟨t, rfl⟩ := r; exact ⟨_, _, tl_int hs⟩
  | .str x, _, _, h, r, _, hz => by cases h; obtain ⟨t, rfl⟩ := r; exact ⟨_, _, tl_str hz⟩
  | .list ds, _, _, h, r, hs, hz => by
    cases h with
    | lst hq ha =>
      cases r
      obtain ⟨its, rv, ⟨o, n, ho, hc, _, hd⟩, _⟩ := I.list hq
      obtain ⟨bs, as, t⟩ := DrA.told I ds _ its ha rv (by simpa [PyData.showable] using hs) (in_list hz)
      exact ⟨_, _, tl_lst ho hc hd t⟩
  | .tuple ds, _, _, h, r, hs, hz => by
    cases h with
    | tup hq ha =>
      cases r
      obtain ⟨its, rv, ⟨o, ho, hc, n, hd⟩, _⟩ := I.tuple hq
      obtain ⟨bs, as, t⟩ := DrA.told I ds _ its ha rv (by simpa [PyData.showable] using hs) (in_tup hz)
      exact ⟨_, _, tl_tup ho hc hd t⟩
  | .dict kvs, _, _, h, r, hs, hz => by
    cases h with
    | @dct a us _ hq ha =>
      cases r
      obtain ⟨_, hne, vs, kv, o, es, ep, ho, hex, hd, _, pr, _⟩ := dk_of I.hok hq
      obtain ⟨s1, s2⟩ := PyData.showableKv_split kvs (by simpa [PyData.showable] using hs)
      obtain ⟨b1, a1, b2, a2, t1, t2⟩ := DrK.told I kvs us vs es.toList ha kv pr s1 s2 (in_keys hz) (in_vals hz)
      exact ⟨_, _, tl_dct hne ho hex.1 hd t1 t2⟩
theorem DrA.told (I : Inv X pins σ H s) : ∀ (ds : List PyData) (vs : List V) (us : List Value), DrA X.K H vs ds → Vals vs us → showableAll ds = true → (∀ t ∈ shownAll ds, t.length ≤ sizeLine) → ∃ bs as, TlA X s us ds bs as
  | [], _, _, h, r, _, _ => by cases h; cases r; exact ⟨_, _, .nil⟩
  | d :: ds, _, _, h, r, hs, hz => by
    cases h with
    | cons h1 h2 =>
      cases r with
      | cons r1 r2 =>
        rw [showableAll, Bool.and_eq_true] at hs
        rw [shownAll] at hz
        obtain ⟨b1, a1, t1⟩ := Dr.told I d _ _ h1 r1 hs.1 (hz _ (List.mem_cons_self ..))
        obtain ⟨b2, a2, t2⟩ := DrA.told I ds _ _ h2 r2 hs.2 fun t ht => hz t (List.mem_cons_of_mem _ ht)
        exact ⟨_, _, .cons t1 t2⟩
theorem DrK.told (I : Inv X pins σ H s) : ∀ (kvs : List (PyData × PyData)) (us : List (Key × V)) (vs : List (Key × Value)) (es : List DictEntry), DrK X.K H us kvs → KV us vs → Pairs (mixKind X.prog X.w) es vs →
    showableAll (kvs.map (·.1)) = true → showableAll (kvs.map (·.2)) = true → (∀ t ∈ shownAll (kvs.map (·.1)), t.length ≤ sizeLine) → (∀ t ∈ shownAll (kvs.map (·.2)), t.length ≤ sizeLine) →
    ∃ b1 a1 b2 a2, TlA X s (es.map (·.key)) (kvs.map (·.1)) b1 a1 ∧ TlA X s (es.map (·.val)) (kvs.map (·.2)) b2 a2
  | [], _, _, _, h, kv, pr, _, _, _, _ => by
    cases h
    unfold KV at kv
    cases kv
    cases pr
    exact ⟨_, _, _, _, .nil, .nil⟩
  | (k, d) :: kvs, _, _, _, h, kv, pr, s1, s2, z1, z2 => by
    cases h with
    | cons h1 h2 =>
      unfold KV at kv
      cases kv with
      | @cons _ q _ vs rr kv =>
        cases pr with
        | cons p1 p2 p3 =>
          rw [List.map_cons, showableAll, Bool.and_eq_true] at s1 s2
          rw [List.map_cons, shownAll] at z1 z2
          rw [← rr.1] at p1
          obtain ⟨b1, a1, t1⟩ := Dr.told I d _ _ h1 rr.2 s2.1 (z2 _ (List.mem_cons_self ..))
          obtain ⟨c1, e1, c2, e2, u1, u2⟩ := DrK.told I kvs _ _ _ h2 kv p3 s1.2 s2.2 (fun t ht => z1 t (List.mem_cons_of_mem _ ht)) fun t ht => z2 t (List.mem_cons_of_mem _ ht)
          exact ⟨_, _, _, _, .cons (key_tl p1 s1.1 (z1 _ (List.mem_cons_self ..))) u1, .cons (p2 ▸ t1) u2⟩
end
end
def rReprR (K : PySem.W.Frag) : List V → Hp → VK → Prop := fun xs H Q => ∃ a d, xs = [.ref a] ∧ Dr K H (.ref a) d ∧ d.showable = true ∧ d.depth ≤ 60 ∧ d.shown.length ≤ sizeLine ∧ Q (.str d.shown) H
theorem cr_reprR {X : Cx} (hg : X.A.guards = some []) (hu : X.A.units + 64 < cLine) : CallR X (.builtin "repr") (rReprR X.K) := by
  intro pins s σ H xs us Q I r h
  obtain ⟨a, d, rfl, hd, hs, hdp, hz, q⟩ := h
  rw [Vals.ref1 r]
  have fin : ∀ (h' : Heap) (u k : Nat), (∀ b o, s.heap.get? b = some o → h'.get? b = some o) → EP X pins σ Q (.str d.shown u) { s with heap := h', toks := k } := fun h' u tk hk => ⟨.str _, H, I.kept hk, ⟨_, rfl⟩, q⟩
  cases hd with
  | lst hq ha =>
    rename_i ds
    obtain ⟨its, rv, ⟨o, n, ho, hc, hx, hd⟩, _⟩ := I.list hq
    obtain ⟨bs, as, t⟩ := DrA.told I ds _ its ha rv (by simpa [PyData.showable] using hs) (in_list hz)
    rw [PyData.shown] at fin hz
    have r : Reads s.heap (.ref a) (.list ds) (a :: as) := .list ho hc hd t.rd
    have dp : (PyData.list ds).depth = PyData.depthAll ds + 1 := by rw [PyData.depth]
    refine call_repr_slot (by omega) ⟨o, ho, hc⟩ F.slot_list_repr.toG ?_
    cases its with
    | nil =>
      obtain rfl : ds = [] := by cases t.rd; rfl
      rw [PyData.shownAll, listText_nil] at fin
      exact call_list_repr_empty ⟨o, ho, hc⟩ ho hd ⟨_, _, rfl, fin s.heap _ _ fun _ _ e => e⟩
    | cons x l => exact call_list_reprK ho hc hd (not_mem_of_deeper r (by omega) t.at_) (by have := t.rp.length_eq; simpa using this) (fun i y q => t.rp.item i y (by simpa using q)) hg (fun b _ => Clear.nil b) (by show X.A.units + 1 + _ < cLine; omega) (fun _ _ e => e) (fun h' u tk hk => ⟨_, _, rfl, fin h' u tk hk⟩) hz
  | tup hq ha =>
    rename_i ds
    obtain ⟨its, rv, ⟨o, ho, hc, n, hd⟩, _⟩ := I.tuple hq
    obtain ⟨bs, as, t⟩ := DrA.told I ds _ its ha rv (by simpa [PyData.showable] using hs) (in_tup hz)
    rw [PyData.shown] at fin hz
    have r : Reads s.heap (.ref a) (.tuple ds) as := .tuple ho hc hd t.rd
    have dp : (PyData.tuple ds).depth = PyData.depthAll ds + 1 := by rw [PyData.depth]
    refine call_repr_slot (by omega) ⟨o, ho, hc⟩ F.slot_tuple_repr ?_
    exact call_tuple_reprK ho hc hd (not_mem_of_deeper r (by omega) t.at_) t.rp hg (fun b _ => Clear.nil b) (by show X.A.units + 1 + _ < cLine; omega) (fun _ _ e => e) (fun h' u tk hk => ⟨_, _, rfl, fin h' u tk hk⟩) hz
  | dct hq ha =>
    rename_i us kvs
    obtain ⟨_, hne, vs, kv, o, es, ep, ho, hex, hd, _, pr, _⟩ := dk_of I.hok hq
    obtain ⟨s1, s2⟩ := PyData.showableKv_split kvs (by simpa [PyData.showable] using hs)
    obtain ⟨b1, a1, b2, a2, t1, t2⟩ := DrK.told I kvs us vs es.toList ha kv pr s1 s2 (in_keys hz) (in_vals hz)
    have r : Reads s.heap (.ref a) (.dict kvs) (a :: a1 ++ a2) := .dict ho hex.1 hd t1.rd t2.rd
    have dp : (PyData.dict kvs).depth = PyData.depthKv kvs + 1 := by rw [PyData.depth]
    have k1 := PyData.depthAll_keys_le kvs
    have k2 := PyData.depthAll_vals_le kvs
    have hb : ReadAtMost s.heap (PyData.depthKv kvs) (b1 ++ b2) := (t1.at_.mono k1).append (t2.at_.mono k2)
    rw [PyData.shown, PyData.shownKv_eq] at fin hz
    refine call_repr_slot (by omega) ⟨o, ho, hex.1⟩ F.slot_dict_repr ?_
    exact call_dict_reprK ho hex.1 hd hne (not_mem_of_deeper r (by omega) hb) (ReprEntriesK.of_two es.toList _ _ (t1.rp.more_le (fun q hq => List.mem_append_left b2 hq) k1) (t2.rp.more_le (fun q hq => List.mem_append_right b1 hq) k2)) hg (fun b _ => Clear.nil b) (by show X.A.units + 1 + _ < cLine; omega) (fun _ _ e => e) (fun h' u tk hk => ⟨_, _, rfl, fin h' u tk hk⟩) hz
mutual
def toPyR : D → Option PyData
  | .non => some .none
  | .bl b => some (.bool b)
  | .int i => some (.int i)
  | .str x => some (.str x)
  | .tup ds => (toPyRL ds).map .tuple
  | .lst _ ds => (toPyRL ds).map .list
  | .dct _ kvs => (toPyRK kvs).map .dict
  | _ => none
def toPyRL : List D → Option (List PyData)
  | [] => some []
  | d :: ds => (toPyR d).bind fun p => (toPyRL ds).map (p :: ·)
def toPyRK : List (D × D) → Option (List (PyData × PyData))
  | [] => some []
  | (k, d) :: r => match k with
    | .int i => (toPyR d).bind fun p => (toPyRK r).map ((.int i, p) :: ·)
    | .str x => (toPyR d).bind fun p => (toPyRK r).map ((.str x, p) :: ·)
    | _ => none
end
section
variable {C : Ct} {Z H : Hp}
mutual
theorem RdV.dr (zh : Same Z H) : ∀ (d : D) (v : V) (F : List Addr) (p : PyData), toPyR d = some p → RdV C Z H d v F → Dr C.K H v p
  | .non, v, F, p, e, h => by rw [toPyR] at e; cases e; rw [RdV] at h; rw [h.1]; exact .non
  | .bl b, v, F, p, e, h => by rw [toPyR] at e; cases e; rw [RdV] at h; rw [h.1]; exact .bl b
  | .int b, v, F, p, e, h => by rw [toPyR] at e; cases e; rw [RdV] at h; rw [h.1]; exact .int b
  | .str b, v, F, p, e, h => by rw [toPyR] at e; cases e; rw [RdV] at h; rw [h.1]; exact .str b
  | .tup ds, v, F, p, e, h => by
    rw [toPyR, Option.map_eq_some_iff] at e
    obtain ⟨ps, e, rfl⟩ := e
    obtain ⟨_, a, vs, rfl, h1, h2⟩ := h.tupP zh
    exact .tup h1 (RdL.dr zh ds vs [] ps e h2)
  | .dct o kvs, v, F, p, e, h => by
    rw [toPyR, Option.map_eq_some_iff] at e
    obtain ⟨ps, e, rfl⟩ := e
    obtain ⟨a, us, G, rfl, h1, h2⟩ := h.dctP zh
    exact .dct h1 (RdK.dr zh kvs us G ps e h2)
  | .lst o ds, v, F, p, e, h => by
    rw [toPyR, Option.map_eq_some_iff] at e
    obtain ⟨ps, e, rfl⟩ := e
    obtain ⟨a, vs, G, rfl, h1, h2⟩ := h.lstP zh
    exact .lst (sqL_of h1) (RdL.dr zh ds vs G ps e h2)
  | .ins o c fs, v, F, p, e, h => by simp [toPyR] at e
  | .set ks, v, F, p, e, h => by simp [toPyR] at e
  | .scr ds, v, F, p, e, h => by simp [toPyR] at e
  | .exn _ _, v, F, p, e, h => by simp [toPyR] at e
  | .fnc _ _ _ _ _, v, F, p, e, h => by simp [toPyR] at e
  | .dcg _ _, v, F, p, e, h => by simp [toPyR] at e
theorem RdL.dr (zh : Same Z H) : ∀ (ds : List D) (vs : List V) (F : List Addr) (ps : List PyData), toPyRL ds = some ps → RdL C Z H ds vs F → DrA C.K H vs ps
  | [], vs, F, ps, e, h => by rw [toPyRL] at e; cases e; rw [RdL] at h; rw [h.1]; exact .nil
  | d :: ds, vs, F, ps, e, h => by
    rw [toPyRL, Option.bind_eq_some_iff] at e
    obtain ⟨p, e1, e⟩ := e
    rw [Option.map_eq_some_iff] at e
    obtain ⟨qs, e2, rfl⟩ := e
    rw [RdL] at h
    obtain ⟨v, r, F1, F2, rfl, rfl, h3, h4⟩ := h
    exact .cons (RdV.dr zh d v F1 p e1 h3) (RdL.dr zh ds r F2 qs e2 h4)
theorem RdK.dr (zh : Same Z H) : ∀ (kvs : List (D × D)) (us : List (Key × V)) (F : List Addr) (ps : List (PyData × PyData)), toPyRK kvs = some ps → RdK C Z H kvs us F → DrK C.K H us ps
  | [], us, F, ps, e, h => by rw [toPyRK] at e; cases e; rw [RdK] at h; rw [h.1]; exact .nil
  | (k, d) :: kvs, us, F, ps, e, h => by
    rw [RdK] at h
    obtain ⟨q, v, r, F1, F2, rfl, rfl, rfl, h3, h4⟩ := h
    cases q with
    | inl i =>
      have e : toPyRK ((.int i, d) :: kvs) = some ps := e
      rw [toPyRK] at e
      rw [Option.bind_eq_some_iff] at e
      obtain ⟨p, e1, e⟩ := e
      rw [Option.map_eq_some_iff] at e
      obtain ⟨qs, e2, rfl⟩ := e
      exact .cons (k := .inl i) (RdV.dr zh d v F1 p e1 h3) (RdK.dr zh kvs r F2 qs e2 h4)
    | inr i =>
      have e : toPyRK ((.str i, d) :: kvs) = some ps := e
      rw [toPyRK] at e
      rw [Option.bind_eq_some_iff] at e
      obtain ⟨p, e1, e⟩ := e
      rw [Option.map_eq_some_iff] at e
      obtain ⟨qs, e2, rfl⟩ := e
      exact .cons (k := .inr i) (RdV.dr zh d v F1 p e1 h3) (RdK.dr zh kvs r F2 qs e2 h4)
end
end
def isRefR : D → Bool
  | .tup _ => true
  | .lst _ _ => true
  | .dct _ _ => true
  | _ => false
def fReprR : List D → Option D
  | [d] => match toPyR d with
    | some p => if isRefR d && p.showable && decide (p.depth ≤ 60) && decide (p.shown.length ≤ sizeLine) then some (.str p.shown) else none
    | none => none
  | _ => none
def fReprV (ds : List D) : Option D := match fReprR ds with
  | some r => some r
  | none => fRepr ds
theorem f_reprR {C : Ct} : FnL C (rReprR C.K) fReprR := by
  intro ds vs Z H F Q e o ra hf p
  unfold fReprR at hf
  split at hf
  · rename_i d
    split at hf
    · rename_i q hq
      split at hf
      · rename_i hc
        cases hf
        simp only [Bool.and_eq_true, decide_eq_true_eq] at hc
        obtain ⟨v, F1, rfl, hd⟩ := ra.one
        have h1 := RdV.dr o.zh d v F1 q hq hd
        have : ∃ a, v = .ref a := by
          cases d with
          | tup xs => obtain ⟨_, a, _, e, _⟩ := hd.tupP o.zh; exact ⟨a, e⟩
          | lst o' xs => obtain ⟨a, _, _, e, _⟩ := hd.lstP o.zh; exact ⟨a, e⟩
          | dct o' xs => obtain ⟨a, _, _, e, _⟩ := hd.dctP o.zh; exact ⟨a, e⟩
          | _ => simp [isRefR] at hc
        obtain ⟨a, rfl⟩ := this
        exact ⟨a, q, rfl, h1, hc.1.1.2, hc.1.2, hc.2, post_val o p (by rw [RdV]; exact ⟨rfl, rfl⟩)⟩
      · cases hf
    · cases hf
  · cases hf
def rReprV (K : PySem.W.Frag) : List V → Hp → VK → Prop := fun xs H Q => (∃ x d, xs = [x] ∧ Dp K H x d ∧ d.showable = true ∧ d.depth ≤ 60 ∧ d.shown.length ≤ sizeLine ∧ Q (.str d.shown) H) ∨ rReprR K xs H Q
theorem o_reprV {X : Cx} (K : PySem.W.Frag) (hg : X.A.guards = some []) (hu : X.A.units + 64 < cLine) (h : X.K = K := by rfl) : CallR X (.builtin "repr") (rReprV K) := by
  subst h
  exact CallR.or (k_repr X.K hg hu) (cr_reprR hg hu)
theorem f_reprV {C : Ct} : FnL C (rReprV C.K) fReprV := by
  intro ds vs Z H F Q e o ra hf p
  unfold fReprV at hf
  split at hf
  · rename_i r hr
    cases hf
    exact .inr (f_reprR ds vs Z H F Q e o ra hr p)
  · exact .inl (f_repr ds vs Z H F Q e o ra hf p)
end Mi
set_option maxHeartbeats 4000000
/-! ### d.update(d2), d.get(k, None), len(set([..])) of ints and None -/
namespace L2
open PySem PySem.Spec PyProof.Rows
/-! a set of leaves -/
def nd {α : Type} [DecidableEq α] : List α → Nat
  | [] => 0
  | k :: r => if k ∈ r then nd r else nd r + 1
end L2
set_option maxHeartbeats 4000000
set_option maxHeartbeats 4000000
namespace Mi
open PySem PySem.Spec PyProof.Rows L2 RZ Ov PpSet
open LamX (CodeO Tabs TabS)
/-! ### raise Cls(v), the class keeping v under a name -/
def spErr (K : PySem.W.Frag) (C : Addr) (f : Str) : Sp := fun vs H Q _ => ∃ (a : Addr) (y : V), vs = [.ref a, y] ∧ H a = some (exo a C none) ∧ ∀ dx, H dx = none → dx ≠ a → Q .non (upd (upd H dx (exd dx [(f, y)])) a (exo a C (some dx)))
def sRaise (c f : String) (m : ME) : MS := fun env => (m env).bind fun d e => if fzn d then .ex ⟨c, [(f, d)]⟩ e else .no
/-- such an __init__ -/
theorem err_fn {P : Program} {w : World} {K : PySem.W.Frag} {mg : Str → Option Value} {base : Heap} {qual v f : Str} {st : Stmt} {fa C : Addr} {fd : FuncData} {p1 p2 p' pos : Pos} (F : L2.Fun K "__init__" qual st fa fd) (T : OexC K C) (hf : PySem.W.findIn K (.ref C) f = some none)
    (S : FnScope ["self", v] ["self", v] (defScope st)) (hb : defBody st = [.Assign [.Attribute (.Name "self" p1) f p'] (.Name v p2) pos]) (hv1 : Vis (defScope st) "self") (hv2 : Vis (defScope st) v) (hd2 : (v == ("__debug__" : Str)) = false) (hc2 : (v == ("__classdict__" : Str)) = false)
    (hs : ∀ X : Cx, swapsWith (.Name v p2) (some (.Attribute (.Name "self" p1) f p')) pos.line X.env = pure false) : FnOk P w K mg base CX0 1 fa fd ["self", v] (spErr K C f) := by
  obtain ⟨oc, od, kV, doc, pm, an, cdv, ct, osl, rfl, lk, hcd⟩ := F.ex
  refine fn_of (k := 0) lk hcd S (by rintro vs H Q E ⟨a, y, rfl, _⟩; rfl) ?_
  rintro A outer s H vs Q E _ ⟨a, y, rfl, ha, q⟩
  rw [hb]
  refine ⟨_, pss_one (ps_ost (pe_var (i := 0) rfl hv1 (by decide) (by decide)) (pe_var (i := 1) rfl hv2 hd2 hc2) (hs _)), ?_⟩
  exact ⟨y, rfl, .ref a, rfl, a, C, rfl, T, hf, .inl ⟨ha, fun dx h1 h2 => q dx h1 h2⟩⟩
/-- an error class of the program -/
structure ErrC (P : Program) (w : World) (K : PySem.W.Frag) (mg : Str → Option Value) (base : Heap) (x : Str) (f : String) (C : Addr) : Prop where
  T : OexC K C
  mC : mg x = some (.ref C)
  ex : ∃ (fI : Addr) (fd : FuncData) (ps : List Str), PySem.W.findIn K (.ref C) "__init__" = some (some (.ref fI)) ∧ PySem.W.typeIn K (.ref fI) = some (.type "function") ∧ FnOk P w K mg base CX0 1 fI fd ps (spErr K C (PySem.Str.ofString f)) ∧ Binds K fd ps []
end Mi
set_option maxHeartbeats 4000000
set_option maxHeartbeats 4000000
namespace Mi
open PySem PySem.Spec PyProof.Rows L2 RZ Ov PpSet
open LamX (CodeO Tabs TabS)
/-! ### try: an error that was caught becomes a value -/
theorem exK_ok {P : Program} {w : World} {H : Hp} {h : Heap} {a c : Addr} {d : Option Addr} {o : Obj} {xs : Array Value} (e : h.get? a = some o) (z : Zc (.ref c) d o) (f : o.data = .fields xs) : ObjOk P w H h a (ExK a c d) :=
  ⟨⟨o, xs, e, z, f⟩, ⟨o, e⟩, fun h1 h2 ⟨o2, xs2, e2, r⟩ k => ⟨o2, xs2, k _ e2, r⟩⟩
theorem exK_at {P : Program} {w : World} {H : Hp} {h : Heap} {a c : Addr} {d : Option Addr} (ok : HOk P w H h) (e : H a = some (ExK a c d)) : ∃ (o : Obj) (xs : Array Value), h.get? a = some o ∧ Zc (.ref c) d o ∧ o.data = .fields xs := (ok a _ e).1
/-- the classes of errors: each derives from OverlapError, and that from ValueError -/
def isSub (c t : String) : Bool := c == t || t == "OverlapError" || t == "ValueError"
/-- one clause: the class, the name's place, the suite -/
abbrev Hnd := String × Option Nat × MS
def hdF (L : List String) : List Hnd → Exn → Env → R Fl
  | [], x, e => .ex x e
  | (t, nm, ms) :: r, x, e => if L.contains x.c then (if isSub x.c t then (match nm with
      | some i => (ms (e.set i (some (.exn x.c x.fs)))).bind fun fl e2 => .ok fl (e2.set i none)
      | none => ms e) else hdF L r x e) else .no
def sTry (L : List String) (mb : MS) (hs : List Hnd) : MS := fun env => match mb env with
  | .ok fl e => .ok fl e
  | .ex x e => hdF L hs x e
  | .no => .no
theorem Ok.addZ {Ω : List (Addr × Str)} {Z H : Hp} {F : List Addr} {b : Addr} {o : HO} (k : Ok Ω Z H F) (e : H b = some o) (hb : b ∉ F) (n : ¬ NodeO b o) (nt : ∀ ps, o ≠ .tbl ps) : Ext Ω Z H F (upd Z b o) H F := by
  have zb : ∀ u, Z b = some u → u = o := fun u z => Option.some.inj ((k.zh b u z).symm.trans e)
  refine ⟨fun x u z => ?_, ⟨fun x u z => ?_, fun x hx => ?_, k.nd, k.live, k.kd, fun x ps z => ?_, k.tb⟩, fun _ _ z _ _ => z, fun x hx => .inl hx, fun x hx => ?_⟩
  · by_cases q : x = b
    · subst q; rw [upd_same, zb u z]
    · rw [upd_ne q]; exact z
  · by_cases q : x = b
    · subst q; rw [upd_same] at z; rw [← z]; exact e
    · rw [upd_ne q] at z; exact k.zh x u z
  · rw [upd_ne (fun z : x = b => hb (z ▸ hx))]; exact k.zf x hx
  · by_cases q : x = b
    · subst q; rw [upd_same] at z; exact nt ps (Option.some.inj z)
    · rw [upd_ne q] at z; exact k.zt x ps z
  · by_cases q : x = b
    · subst q
      exact .inr (.inr fun u z m => by rw [e] at z; cases z; exact n m)
    · rw [upd_ne q] at hx; exact .inl hx
theorem exK_node {a c : Addr} {d : Option Addr} : ∀ ps, ExK a c d ≠ .tbl ps := fun ps z => by
  have z2 : HO.ext _ = HO.tbl ps := z
  cases z2
/-- the error as a value -/
theorem exn_rd {C : Ct} {Z H : Hp} {F : List Addr} {env : Env} {σ : L2.St} {a Ca : Addr} {d : Option Addr} {c : String} {fs : List (String × D)} {us : List (Str × V)} (hc : C.cls c = some Ca) (hx : XdAt H d us) (hf : RdF C Z H fs us []) (o : Ok C.T Z H F) (r : RdE C Z H env σ F) (na : H a = none) :
    ∃ Z', Ext C.T Z H F Z' (upd H a (ExK a Ca d)) F ∧ RdV C Z' (upd H a (ExK a Ca d)) (.exn c fs) (.ref a) [] ∧ RdE C Z' (upd H a (ExK a Ca d)) env σ F := by
  have x1 : Ext C.T Z H F (upd Z a (ExK a Ca d)) (upd H a (ExK a Ca d)) F := Ext.newZ o na exK_node
  have r1 := r.same (H' := upd H a (ExK a Ca d)) x1.zz (same_new na)
  have hf1 : RdF C (upd Z a (ExK a Ca d)) (upd H a (ExK a Ca d)) fs us [] := RdF.mono x1.zz fs us [] (fun b hb => absurd hb List.not_mem_nil) hf
  cases d with
  | none =>
    refine ⟨_, x1, ?_, r1⟩
    rw [RdV]
    exact ⟨rfl, a, Ca, none, us, rfl, hc, upd_same, hx, hf1⟩
  | some b =>
    have hx : H b = some (.xd us) := hx
    have hx1 : upd H a (ExK a Ca (some b)) b = some (.xd us) := by rw [upd_ne (ne_of_none hx na)]; exact hx
    have x2 := x1.ok.addZ (o := .xd us) hx1 (fun hb => by
      obtain ⟨o2, e2, n2⟩ := RdE.nk r1 b hb
      rw [hx1] at e2
      cases e2
      exact n2.xd us rfl) (fun n => n.xd us rfl) (fun ps z => by cases z)
    refine ⟨_, x1.trans x2, ?_, r1.same x2.zz (Same.refl _)⟩
    rw [RdV]
    refine ⟨rfl, a, Ca, some b, us, rfl, hc, x2.zz _ _ upd_same, upd_same, RdF.mono x2.zz fs us [] (fun b hb => absurd hb List.not_mem_nil) hf1⟩
theorem RdE.any {C : Ct} {Z H : Hp} {x : Option V} : ∀ {env : Env} {σ : L2.St} {F : List Addr} {i : Nat}, RdE C Z H (env.set i none) σ F → RdE C Z H (env.set i none) (σ.set i x) F
  | [], σ, F, i, h => by
    have h : RdE C Z H [] σ F := by simpa using h
    rw [h.1]
    exact ⟨by simp, h.2⟩
  | d :: env, σ, F, 0, h => by
    obtain ⟨y, s, rfl, h⟩ := h
    exact ⟨x, s, rfl, h⟩
  | none :: env, σ, F, i + 1, h => by
    obtain ⟨y, s, rfl, h⟩ := h
    exact ⟨y, _, rfl, RdE.any (i := i) h⟩
  | some d :: env, σ, F, i + 1, h => by
    obtain ⟨v, s, F1, F2, rfl, rfl, h1, h⟩ := h
    exact ⟨v, _, F1, F2, rfl, rfl, h1, RdE.any (i := i) h⟩
end Mi
set_option maxHeartbeats 4000000
namespace Mi
open PySem PySem.Spec PyProof.Rows L2 RZ Ov PpSet
open LamX (CodeO Tabs TabS)
/-! ### parts that raise nothing, where errors may be raised -/
def nxR {α : Type} : R α → R α
  | .ok a e => .ok a e
  | _ => .no
def calmE (m : ME) : ME := fun env => nxR (m env)
def calmB (m : MB) : MB := fun env => nxR (m env)
def calmS (m : MS) : MS := fun env => nxR (m env)
section
variable {X : Cx} {N : Cn} {st : Bool} {e : Expr} {s : Stmt} {ss : List Stmt} {es : List Expr} {m : ME} {mb : MB} {ms : MS} {ml : ML}
theorem Wp.cl {α : Type} {σ : L2.St} {Z H : Hp} {F : List Addr} {r : R α} {k : α → Env → Prop} (w : Wp N σ Z H F (nxR r) k) : Wp N.calm σ Z H F r k := by
  cases r with
  | ok a e => exact w
  | ex x e => exact w.elim
  | no => exact w
theorem QE.cl (h : QE X N.calm st e m) : QE X N st e (calmE m) := let ⟨t, p, q⟩ := h; ⟨t, p, fun env σ Z H F Q o r w => q env σ Z H F Q o r (Wp.cl (N := N) w)⟩
theorem QT.cl (h : QT X N.calm st e m) : QT X N st e (calmE m) := let ⟨t, p, q⟩ := h; ⟨t, p, fun env σ Z H F Q o r w => q env σ Z H F Q o r (Wp.cl (N := N) w)⟩
theorem QB.cl (h : QB X N.calm st e mb) : QB X N st e (calmB mb) := let ⟨t, p, q⟩ := h; ⟨t, p, fun env σ Z H F Q o r w => q env σ Z H F Q o r (Wp.cl (N := N) w)⟩
theorem aft_cl {σ : L2.St} {Z H : Hp} {F : List Addr} {D0 : Ends} {fl : Fl} {env : Env} (h : Aft N σ Z H F D0 fl env) : Aft N.calm σ Z H F D0 fl env := by cases fl <;> exact h
theorem QS.cl (h : QS X N.calm s ms) : QS X N s (calmS ms) := let ⟨t, p, q⟩ := h; ⟨t, p, fun env σ Z H F D0 o r w => q env σ Z H F D0 o r ((Wp.cl (N := N) w).mono (Pin.refl _ _) (Ext.refl o) fun _ _ z => aft_cl z)⟩
theorem QSs.cl (h : QSs X N.calm ss ms) : QSs X N ss (calmS ms) := let ⟨t, p, q⟩ := h; ⟨t, p, fun env σ Z H F D0 o r w => q env σ Z H F D0 o r ((Wp.cl (N := N) w).mono (Pin.refl _ _) (Ext.refl o) fun _ _ z => aft_cl z)⟩
theorem Ag.cl (ag : Ag X N) : Ag X N.calm := ⟨ag.K, ag.P, ag.w⟩
end
/-! ### defs that may raise -/
section
variable {P : Program} {w : World} {K : PySem.W.Frag} {mg : Str → Option Value} {base : Heap} {k : Nat} {Ns ps : List Str} {stm : Stmt} {f : Addr} {fd : FuncData} {io : List Bool} {cls : String → Option Addr} {m : MS} {n : Nat} {x : Str} {sp : Sp}
/-- where nothing is to be raised, such a def raises nothing -/
theorem spM_calm {C : Ct} {fn : Fun} {vs : List V} {H : Hp} {Q : VK} {E : XK} (h : spM C false io fn vs H Q E) : spM C true io fn vs H Q E0 := by
  obtain ⟨ds, Z, F, h1, h2, h3, h4⟩ := h
  refine ⟨ds, Z, F, h1, h2, h3, ?_⟩
  cases q : fn ds with
  | ok d ios => rw [q] at h4; exact h4
  | ex x ios => rw [q] at h4; exact absurd h4.1 Bool.false_ne_true
  | no => rw [q] at h4; exact h4
theorem fnG_calm {C : Ct} {fn : Fun} (F : FnG P w K mg base (L2.CX P w) k f fd ps (spM C true io fn)) : FnG P w K mg base CX0 k f fd ps (spM C false io fn) := by
  refine ⟨fun vs H Q E h => F.len vs H Q E0 (spM_calm h), fun A o s H a us vs Q E hr e0 hb rv hs => ?_⟩
  refine codeAny_mono (F.run A o s H a us vs Q E0 hr e0 hb rv (spM_calm hs)) fun r s2 q => ?_
  match r, q with
  | .ok (.ret u), q => exact q
  | .error e, q =>
    obtain ⟨_, _, _, _, _, _, _, _, _, _, _, _, z⟩ := q
    exact z.elim
theorem Cal.calm {C : Ct} {fn : Fun} (c : Cal P w K mg base (L2.CX P w) k x ps (spM C true io fn)) : Cal P w K mg base CX0 k x ps (spM C false io fn) := let ⟨f, fd, F, r⟩ := c.ex; ⟨f, fd, fnG_calm F, r⟩
theorem CalD.calm {C : Ct} {fn : Fun} {us : List V} (c : CalD P w K mg base (L2.CX P w) k x ps us (spM C true io fn)) : CalD P w K mg base CX0 k x ps us (spM C false io fn) := let ⟨f, fd, F, r⟩ := c.ex; ⟨f, fd, fnG_calm F, r⟩
theorem Met.calm {C : Ct} {fn : Fun} {D : Addr} {mn : Str} (c : Met P w K mg base (L2.CX P w) k D mn ps (spM C true io fn)) : Met P w K mg base CX0 k D mn ps (spM C false io fn) := let ⟨f, fd, a, b, F, r⟩ := c.ex; ⟨f, fd, a, b, fnG_calm F, r⟩
theorem Mak.calm {C : Ct} {fn : Fun} {D : Addr} (c : Mak P w K mg base (L2.CX P w) k x D ps (spM C true io fn)) : Mak P w K mg base CX0 k x D ps (spM C false io fn) := let ⟨f, fd, a, F, r⟩ := c.ex; ⟨f, fd, a, fnG_calm F, r⟩
end
/-! ### calls of such -/
/-! ### of which class an error is; its field -/
/-- what is asked of a class of errors: its instances may be looked at -/
structure ExcK (K : PySem.W.Frag) (C : Addr) : Prop where
  cl : (PySem.W.clsIn K C).isSome = true
  ga : PySem.W.findIn K (.ref C) "__getattribute__" = some (some (.builtin "BaseException.__getattribute__"))
  gg : PySem.W.findIn K (.ref C) "__getattr__" = some none
  sb : PySem.W.subIn K (.ref C) (.type "BaseException") = some true
  ca : PySem.W.findIn K (.ref C) "__class__" = some (some (.builtin "object.__class__"))
  cg : PySem.W.specialIn K (.builtin "object.__class__") "__get__" = some (some (.builtin "getset_descriptor.__get__"))
  ct : PySem.W.takesIn K (.builtin "object.__class__") = some true
  mo : PySem.W.mroIn K C (.type "object") = some true
  hd : PySem.W.hasDictIn K C = true
theorem exK_inst {P : Program} {w : World} {H : Hp} {h : Heap} {a c : Addr} {d : Option Addr} {us : List (Str × V)} (ok : HOk P w H h) (e : H a = some (ExK a c d)) (x : XdAt H d us) : ∃ (o : Obj) (od : Option Obj), PySem.W.InstAt h a o c od ∧
    (∀ dd, d = some dd → ∃ (b : Obj) (mA : Str → Option Value), od = some b ∧ h.Ns1 dd mA ∧ h.get? dd = some b ∧ ∀ f, RelO (us.lookup f) (mA f)) := by
  obtain ⟨o, xs, e1, z, f⟩ := exK_at ok e
  have nc : PySem.W.notCls o = true := by unfold PySem.W.notCls; rw [f]
  cases d with
  | none => exact ⟨o, none, ⟨e1, z.1, nc, by rw [z.2]; trivial⟩, fun dd q => by cases q⟩
  | some b =>
    have x : H b = some (.xd us) := x
    obtain ⟨mA, n1, n2⟩ := ok b _ x
    obtain ⟨ob, es, ep, n3, n4⟩ := id n1
    refine ⟨o, some ob, ⟨e1, z.1, nc, by rw [z.2]; exact n3⟩, fun dd q => ?_⟩
    cases q
    exact ⟨ob, mA, rfl, n1, n3, n2⟩
def clV : V → Option Value
  | .ref a => some (.ref a)
  | .ty T => some (.type T)
  | _ => none
theorem clV_rel {v : V} {u z : Value} (h : clV v = some u) (r : RelV v z) : z = u := by
  cases v with
  | ref a => cases h; exact r
  | ty T => cases h; exact r
  | _ => cases h
theorem clV_vals : ∀ {vs : List V} {us zs : List Value}, vs.map clV = us.map some → Vals vs zs → zs = us
  | [], [], zs, _, r => by cases r; rfl
  | [], _ :: _, _, h, _ => by cases h
  | _ :: _, [], _, h, _ => by cases h
  | v :: vs, u :: us, _, h, r => by
    cases r with
    | cons r1 r2 =>
      simp only [List.map_cons, List.cons.injEq] at h
      rw [clV_rel h.1 r1, clV_vals h.2 r2]
def rIsX (K : PySem.W.Frag) : List V → Hp → VK → Prop := fun xs H Q => ∃ (a C : Addr) (d : Option Addr) (us : List (Str × V)) (c : V) (b : Bool), xs = [.ref a, c] ∧ H a = some (ExK a C d) ∧ XdAt H d us ∧ ExcK K C ∧
  ((∃ u, clV c = some u ∧ PySem.W.kitOne K (.ref C) u = some b) ∨ ∃ p vs cs, c = .ref p ∧ H p = some (.tup vs) ∧ vs.map clV = cs.map some ∧ PySem.W.kitAny K (.ref C) cs = some b) ∧ Q (.bl b) H
theorem isx_mk {X : Cx} : CallR X (.builtin "isinstance") (rIsX X.K) := by
  intro pins s σ H xs us Q I r hq
  obtain ⟨a, C, d, fs, c, b, rfl, h1, h2, k, h3, q⟩ := hq
  obtain ⟨o, od, J, _⟩ := exK_inst I.hok h1 h2
  have kx := PySem.W.kitx_exc (x := a) (ox := o) (od := od) k.cl k.ga k.gg k.sb k.ca k.cg k.ct k.mo
  match us, r with
  | [_, _], .cons r1 (.cons r2 .nil) =>
    obtain rfl := r1
    have fin : ∀ tk, EP X pins σ Q (.bool b) { s with toks := tk } := fun tk => ⟨.bl b, H, I.tok _, rfl, q⟩
    rcases h3 with ⟨u, e1, e2⟩ | ⟨p, vs, cs, rfl, e1, e2, e3⟩
    · obtain rfl := clV_rel e1 r2
      exact PySem.W.kia_one kx I.kIn J e2 (fun z => by cases z) fin
    · obtain rfl := r2
      obtain ⟨_, its, v1, ob, g1, g2, n, g3⟩ := I.hok p _ e1
      obtain rfl := clV_vals e2 v1
      obtain ⟨oc, od2, oda, osl⟩ := ob
      cases g2
      cases g3
      exact PySem.W.kia_tup kx I.kIn J g1 e3 (fun z => by cases z) fin
/-- of which of the classes Ts an error is -/
def fIsX (L Ts : List String) : D → Option D
  | .exn c _ => if L.contains c then some (.bl (Ts.any fun t => isSub c t)) else none
  | _ => none
/-- what the name T stands for: a class; which errors are of it -/
def IsT (K : PySem.W.Frag) (mg : Str → Option Value) (cls : String → Option Addr) (L : List String) (T : String) : Prop :=
  ∃ v u, clV v = some u ∧ RelV v u ∧ (mg (PySem.Str.ofString T) = some u ∨ (mg (PySem.Str.ofString T) = none ∧ bootBuiltins (PySem.Str.ofString T) = some u)) ∧ ∀ c Ca, L.contains c = true → cls c = some Ca → PySem.W.kitOne K (.ref Ca) u = some (isSub c T)
def ExcL (K : PySem.W.Frag) (cls : String → Option Addr) (L : List String) : Prop := ∀ c Ca, L.contains c = true → cls c = some Ca → ExcK K Ca
section
variable {X : Cx} {N : Cn} {st : Bool} {L Ts : List String} {T : String} {e : Expr} {es : List Expr} {m : ME} {p pT pos : Pos}
theorem isT_pe {v : V} {u : Value} (r : RelV v u) (h : X.mg (PySem.Str.ofString T) = some u ∨ (X.mg (PySem.Str.ofString T) = none ∧ bootBuiltins (PySem.Str.ofString T) = some u)) (hg : Gl X (PySem.Str.ofString T)) (hn : PySem.Str.ofString T ≠ "__name__") (hd : (PySem.Str.ofString T == ("__debug__" : Str)) = false) : PE X (.Name (PySem.Str.ofString T) pT) (tC v) := by
  rcases h with h | ⟨h1, h2⟩
  · exact pe_glob hg h r hd
  · exact pe_bltn hg h1 h2 r hn hd
theorem q_isX (ag : Ag X N) (hL : ExcL X.K N.C.cls L) (hT : IsT X.K X.mg N.C.cls L T) (hm : X.mg "isinstance" = none) (ha : QT X N st e m) (hg : Gl X "isinstance" := by rfl) (hgT : Gl X (PySem.Str.ofString T) := by rfl) (hnT : PySem.Str.ofString T ≠ "__name__" := by decide) (hdT : (PySem.Str.ofString T == ("__debug__" : Str)) = false := by decide)
    (hs0 : starEach [.Name (PySem.Str.ofString T) pT] X.env = (false, eval (.Name (PySem.Str.ofString T) pT) X.env) :: starEach [] X.env := by rfl)
    (he : starEach [e, .Name (PySem.Str.ofString T) pT] X.env = (false, eval e X.env) :: starEach [.Name (PySem.Str.ofString T) pT] X.env := by rfl) (hpl : (backTo pos (starEach [.Name (PySem.Str.ofString T) pT] X.env)).any (·.1) = false := by rfl) :
    QE X N st (.Call (.Name "isinstance" p) [e, .Name (PySem.Str.ofString T) pT] [] pos) (e1 (fIsX L [T]) m) := by
  obtain ⟨t, p', q⟩ := ha
  obtain ⟨v, u, h1, h2, h3, h4⟩ := hT
  refine ⟨_, pe_callB isx_mk hg hm (by decide +kernel) (pa_cons p' (pa_cons (isT_pe h2 h3 hgT hnT hdT) pa_nil hs0) he) (by decide) (by decide) he hpl, ?_⟩
  intro env σ Z H F Q o re w
  refine q env σ Z H F _ o re (w.bind.mono (Pin.refl _ _) (Ext.refl o) ?_)
  intro d env1 k v0 Z1 H1 Fd F1 x rd r1 sm
  obtain ⟨g, hg2⟩ := wp_lift k
  rw [hg2] at k
  unfold fIsX at hg2
  split at hg2
  · rename_i c fs
    split at hg2
    · rename_i hl
      cases hg2
      rw [RdV] at rd
      obtain ⟨_, a, Ca, dd, us, rfl, hc, hz, hx, _⟩ := rd
      refine ⟨a, Ca, dd, us, v, isSub c T, rfl, x.ok.zh _ _ hz, hx.mono x.ok.zh, hL c Ca hl hc, .inl ⟨u, h1, h4 c Ca hl hc⟩, ?_⟩
      have e1 : ([T].any fun t => isSub c t) = isSub c T := by simp
      rw [e1] at k
      exact k _ Z1 H1 [] F1 x rd_bl r1 sm
    · cases hg2
  · cases hg2
/-- the field f of an error -/
def eXf (L : List String) (f : String) (m : ME) : ME := fun env => (m env).bind fun d e => match d with
  | .exn c fs => if L.contains c then lift (fs.lookup f) e else .no
  | _ => .no
theorem rdF_at {C : Ct} {Z H : Hp} {f : String} {d : D} : ∀ {fs : List (String × D)} {us : List (Str × V)}, RdF C Z H fs us [] → fs.lookup f = some d → ∃ v, us.lookup (PySem.Str.ofString f) = some v ∧ RdV C Z H d v []
  | [], us, h, e => by cases e
  | (g, d2) :: r, us, h, e => by
    rw [RdF] at h
    obtain ⟨v, s, F1, F2, rfl, hF, h1, h2⟩ := h
    obtain ⟨rfl, rfl⟩ : F1 = [] ∧ F2 = [] := by simpa using hF.symm
    rw [List.lookup_cons] at e ⊢
    by_cases q : f = g
    · subst q
      simp only [beq_self_eq_true] at e ⊢
      cases e
      exact ⟨v, rfl, h1⟩
    · have q2 : (PySem.Str.ofString f == PySem.Str.ofString g) = false := beq_eq_false_iff_ne.mpr fun z => q (ofString_inj z)
      have q1 : (f == g) = false := beq_eq_false_iff_ne.mpr q
      rw [q1] at e
      rw [q2]
      exact rdF_at h2 e
def tXF (C : PySem.W.Frag) (f : Str) (te : TE) : TE := fun σ H Q => te σ H fun x H1 => ∃ (a Ca dd : Addr) (us : List (Str × V)) (v : V), x = .ref a ∧ H1 a = some (ExK a Ca (some dd)) ∧ H1 dd = some (.xd us) ∧ ExcK C Ca ∧ PySem.W.findIn C (.ref Ca) f = some none ∧ us.lookup f = some v ∧ Q v H1
theorem pe_xF {f : Str} {te : TE} (he : PE X e te) (hb : attributeBase e f X.env (eval e X.env) = eval e X.env := by rfl) : PE X (.Attribute e f pos) (tXF X.K f te) := by
  constructor
  intro pins s σ H Q I h
  apply attr_of hb
  apply thn (he.run pins s σ H _ I h)
  rintro u s1 ⟨x, H1, I1, rx, a, Ca, dd, us, v, rfl, h1, h2, k, hn, hl, q⟩
  obtain rfl := rx
  obtain ⟨o, od, J, hd⟩ := exK_inst I1.hok h1 h2
  obtain ⟨ob, mA, rfl, n1, n2, n3⟩ := hd dd rfl
  obtain ⟨o2, e2, e3⟩ := lookIn_ns n1
  rw [n2] at e2
  cases e2
  obtain ⟨z, hz, rz⟩ := RelO.some_of (v := v) (o := mA f) (by rw [← hl]; exact n3 f)
  exact HandSPX.exc_get I1.kIn J k.ga k.gg k.sb (PySem.W.findObj_own k.hd hn rfl (by rw [e3, hz])) (handed_of rz) ⟨v, H1, I1.tok _, rz, q⟩
theorem q_xF {f : String} (ag : Ag X N) (hL : ExcL X.K N.C.cls L) (hf : ∀ c Ca, L.contains c = true → N.C.cls c = some Ca → PySem.W.findIn X.K (.ref Ca) (PySem.Str.ofString f) = some none) (ha : QT X N st e m) (hb : attributeBase e (PySem.Str.ofString f) X.env (eval e X.env) = eval e X.env := by rfl) :
    QT X N st (.Attribute e (PySem.Str.ofString f) pos) (eXf L f m) := by
  obtain ⟨t, p', q⟩ := ha
  refine ⟨_, pe_xF p' hb, ?_⟩
  intro env σ Z H F Q o re w
  refine q env σ Z H F _ o re (w.bind.mono (Pin.refl _ _) (Ext.refl o) ?_)
  intro d env1 k v0 Z1 H1 Fd F1 x rd r1 sm
  cases d with
  | exn c fs =>
    simp only at k
    split at k
    · rename_i hl
      cases e : fs.lookup f with
      | none => rw [e] at k; exact k.elim
      | some g =>
        rw [e] at k
        rw [RdV] at rd
        obtain ⟨_, a, Ca, dd, us, rfl, hc, hz, hx, hr⟩ := rd
        obtain ⟨v, e1, e2⟩ := rdF_at hr e
        cases dd with
        | none =>
          have hx : us = [] := hx
          subst hx
          cases e1
        | some b => exact ⟨a, Ca, b, us, v, rfl, x.ok.zh _ _ hz, x.ok.zh _ _ hx, hL c Ca hl hc, hf c Ca hl hc, e1, k v Z1 H1 [] F1 x e2 r1 sm⟩
    · exact k.elim
  | _ => exact k.elim
end
end Mi
set_option maxHeartbeats 4000000
namespace Mi
open PySem PySem.Spec PyProof.Rows L2 RZ Ov PpSet
open LamX (CodeO Tabs TabS TabB LamS lamEnv lamCx)
/-! ### what a lambda catches -/
/-! ### the call of what was handed in -/
open Classical in
noncomputable def eCb (v : D) (i : Nat) (rb : R D) : ME := fun env => if env[i]? = some (some v) then (match rb with
  | .ok d _ => .ok d env
  | .ex x _ => .ex x env
  | .no => .no) else .no
end Mi
set_option maxHeartbeats 4000000
namespace Mi
open PySem PySem.Spec PyProof.Rows L2 RZ Ov PpSet
open LamX (CodeO Tabs TabS TabB LamS lamEnv lamCx ExtN)
/-! ### a def that calls the lambda it is handed -/
/-- the name that a lambda of the def x bears -/
abbrev lamQ (x : Str) : Str := (x ++ (".<locals>." : Str)) ++ ("<lambda>" : Str)
end Mi
set_option maxHeartbeats 4000000
namespace Mi
open PySem PySem.Spec PyProof.Rows L2 RZ Ov PpSet
open LamX (CodeO Tabs TabS TabB)
/-! ### the end of a law that makes lambdas -/
section
variable {P : Program} {w : World} {K : PySem.W.Frag} {mg : Str → Option Value} {base : Heap} {cls : String → Option Addr} {Ω : List (Addr × Str)} {k n : Nat} {stm : Stmt} {f : Addr} {fd : FuncData} {x : Str} {ps Ns : List Str} {io : List Bool} {m : MS}
/-- a def that makes lambdas: its code object at c, the table at t -/
structure MakL (K : PySem.W.Frag) (mg : Str → Option Value) (base : Heap) (Ω : List (Addr × Str)) (x : Str) (stm : Stmt) (f : Addr) (fd : FuncData) (c t : Addr) : Prop where
  fn : ∃ (oc : Value) (od : Option Addr) (kV doc pm : Value) (an : Option Addr) (ct : Value) (osl : Array (Option Value)), fd = PySem.W.fnOf x x (defArgs stm) (defBody stm) (defScope stm) .none kV doc pm an (.ref c) ct ∧
    K.lookup f = some ⟨oc, od, .func fd, osl⟩ ∧ PySem.W.codeIn K (.ref c) x = true
  mgf : mg x = some (.ref f)
  kp : PySem.W.keepIn K (.ref f) = true
  tb : TabB base mg c t
  hm : (t, lamQ x) ∈ Ω
  hu : ∀ q ∈ Ω, q.1 = t → q.2 = lamQ x
theorem MakL.binds {c t : Addr} (F : MakL K mg base Ω x stm f fd c t) (h : ∀ (kV doc pm : Value) (an : Option Addr) (ct : Value) (us : List Value), us.length = ps.length → bindArgs (PySem.W.fnOf x x (defArgs stm) (defBody stm) (defScope stm) .none kV doc pm an (.ref c) ct) ⟨us, []⟩ = pure (ps.zip us)) : Binds K fd ps [] := by
  obtain ⟨oc, od, kV, doc, pm, an, ct, osl, rfl, lk, hcd⟩ := F.fn
  intro s us _ hl
  rw [List.append_nil] at hl ⊢
  exact .of_eq (h kV doc pm an ct us hl)
end
/-! ### the words of the walk -/
/-- raise C(v) -/
def ErrT (P : Program) (w : World) (K : PySem.W.Frag) (mg : Str → Option Value) (base : Heap) (cls : String → Option Addr) (c f : String) : Prop := ∃ C, cls c = some C ∧ ErrC P w K mg base (PySem.Str.ofString c) f C
/-! {"a": 1} -/
def eD1 (x : Str) (i : Int) : ME := fun env => .ok (.dct true [(.str x, .int i)]) env
/-! for the end -/
theorem allL_nil {cls : String → Option Addr} {Q : String → Addr → Prop} : ∀ c Ca, ([] : List String).contains c = true → cls c = some Ca → Q c Ca := fun c Ca h => by simp at h
theorem allL_cons {cls : String → Option Addr} {Q : String → Addr → Prop} {L : List String} {c0 : String} {A0 : Addr} (h0 : cls c0 = some A0) (q : Q c0 A0) (r : ∀ c Ca, L.contains c = true → cls c = some Ca → Q c Ca) : ∀ c Ca, (c0 :: L).contains c = true → cls c = some Ca → Q c Ca := fun c Ca h hc => by
  rw [List.contains_cons, Bool.or_eq_true] at h
  rcases h with h | h
  · obtain rfl : c = c0 := by simpa using h
    rw [h0] at hc
    cases hc
    exact q
  · exact r c Ca h hc
end Mi
set_option maxHeartbeats 4000000
set_option maxHeartbeats 4000000
set_option maxHeartbeats 4000000
set_option maxHeartbeats 4000000
namespace Mi
open PySem PySem.Spec PyProof.Rows L2 RZ Ov PpSet
open LamX (CodeO Tabs TabS)
/-! ### errors as values; errors without arguments -/
theorem pe_mk {X : Cx} {e : Expr} {t : L2.St → Hp → XK → Prop} (h : PMk X e t) :
    PE X e (fun σ H Q => t σ H fun cls d H' => ∃ C, cls = .ref C ∧ ∀ a, H' a = none → Q (.ref a) (upd H' a (ExK a C d))) := by
  refine ⟨fun pins s σ H Q I q => thn (h pins s σ H _ I q) fun u s1 hu => ?_⟩
  obtain ⟨a, oe, vs, sI, H', cls, d, rfl, J, kp, na, he, z, f, f1, hn, os, ag, rs, C, rfl, q⟩ := hu
  refine ⟨.ref a, upd H' a (ExK a C d), ?_, rfl, q a hn⟩
  have new : ObjOk X.prog X.w (upd H' a (ExK a C d)) s1.heap a (ExK a C d) := exK_ok he z f
  have ne : ∀ b o2, sI.heap.get? b = some o2 → b ≠ a := fun b o2 q z => by rw [z, na] at q; cases q
  refine J.call' (ch := []) os ⟨?_, ?_, ?_, ?_, ?_, ?_, ?_⟩ (HOk.laidN J.hok kp hn new) ag fun b hb => absurd hb List.not_mem_nil
  · exact fun b o2 q _ hb _ => kp b o2 q
  · exact fun b o2 q _ hb _ => ⟨o2.slots, kp b o2 q⟩
  · intro b o2 q n _
    rw [upd_ne (ne b o2 q)]; exact n
  · exact fun b o2 q _ => ⟨o2, kp b o2 q⟩
  · intro b us q
    rw [upd_ne (ne_of_none q hn)]; exact q
  · intro b u us q
    rw [upd_ne (ne_of_none q hn)]; exact q
  · intro b ps q
    exact ⟨#[], by rw [upd_ne (ne_of_none q hn), q]; simp⟩
/-- C() of an own class of errors without own __init__ -/
theorem pmk_own0 {X : Cx} {C : Addr} {bmB : List Value} {B newId initId : String} {x : Str} {p pos : Pos} (F : ExcBaseFacts B newId initId bmB) (q : PySem.W.excIn X.K C bmB newId = true) (gC : X.mg x = some (.ref C)) (kC : PySem.W.keepIn X.K (.ref C) = true) (r : Raises X (.ref C)) (hg : Gl X x)
    (hdb : (x == ("__debug__" : Str)) = false := by decide) : PMk X (.Call (.Name x p) [] [] pos) (fun _ H Q => Q (.ref C) none H) := by
  intro pins s σ H Q I h
  refine wpAny_Call_Name_kw (ld_glob I hg gC ?_ hdb)
  refine PySem.W.callWith_K0 I.kIn kC ?_
  show wpAny _ _ (call (.ref C) []) _ _ _
  obtain ⟨bm, N, nm, qn, bs, hdct, sn, sub, ab, col, dd, k0, k1, k2, k3, k5, mN, hC, hN, hni, T⟩ := exc_obj I.kIn q
  refine wpAny_call_exc_subT F T hC hN hni (fun h' e hm => ?_) (Nat.zero_le _)
  exact mk_of I hm r h (I.hok.gone hm.new)
abbrev bmVE : List Value := [.type "ValueError", .type "Exception", .type "BaseException", .type "object"]
/-- an own class of errors that has nothing to keep -/
def ErrN (K : PySem.W.Frag) (mg : Str → Option Value) (cls : String → Option Addr) (c : String) : Prop := ∃ C, cls c = some C ∧ PySem.W.excIn K C bmVE "ValueError.__new__" = true ∧ mg (PySem.Str.ofString c) = some (.ref C) ∧ PySem.W.keepIn K (.ref C) = true ∧
  PySem.W.subIn K (.ref C) (.type "BaseException") = some true ∧ PySem.W.typeIn K (.ref C) = some (.type "type")
def eMkN (c : String) : ME := fun env => .ok (.exn c []) env
def eMkX (c f : String) (m : ME) : ME := fun env => (m env).bind fun d e => if fzn d then .ok (.exn c [(f, d)]) e else .no
theorem v_mkN {c : String} {env : Env} : eMkN c env = .ok (.exn c []) env := rfl
section
variable {X : Cx} {N : Cn} {W : WX} {st : Bool} {j : Nat} {c f : String} {e : Expr} {m : ME} {p pos pos2 : Pos}
theorem q_mkN (ec : ErrN X.K X.mg N.C.cls c) (hg : Gl X (PySem.Str.ofString c) := by rfl) (hdb : (PySem.Str.ofString c == ("__debug__" : Str)) = false := by decide) :
    QE X N true (.Call (.Name (PySem.Str.ofString c) p) [] [] pos) (eMkN c) := by
  obtain ⟨C, hC, hx, gC, kC, hs, ht⟩ := ec
  refine ⟨_, pe_mk (pmk_own0 PySem.F.excBase_ValueError hx gC kC (raises_own hs ht) hg hdb), ?_⟩
  intro env σ Z H F Q o r w
  refine ⟨C, rfl, fun a na => ?_⟩
  obtain ⟨Z', x, rv, r1⟩ := exn_rd (c := c) (fs := []) (us := []) (d := none) hC rfl (by rw [RdF]; exact ⟨rfl, rfl⟩) o r na
  exact w (.ref a) Z' _ [] F x rv r1 fun _ => same_new na
theorem q_mkX (ec : ErrT X.prog X.w X.K X.mg X.base N.C.cls c f) (hr : Rm j X.A) (ag : Ag X N) (he : QE X N st e m)
    (hk : 2 ≤ j := by decide) (hg : Gl X (PySem.Str.ofString c) := by rfl) (hdb : (PySem.Str.ofString c == ("__debug__" : Str)) = false := by decide) (hs : starEach [e] X.env = (false, eval e X.env) :: starEach [] X.env := by rfl) (hpl : (backTo pos (starEach [] X.env)).any (·.1) = false := by rfl) :
    QE X N st (.Call (.Name (PySem.Str.ofString c) p) [e] [] pos) (eMkX c f m) := by
  obtain ⟨C, hC, ec⟩ := ec
  obtain ⟨t, p', q⟩ := he
  obtain ⟨fI, fd, ps, h1, h2, h3, h4⟩ := ec.ex
  refine ⟨_, pe_mk (pmk_oex ec.T h1 h2 h3 (hr.r.mono hk) h4 .nil pass0 hg ec.mC (pa_cons p' pa_nil hs) hdb hs hpl), ?_⟩
  intro env σ Z H F Q o r w
  refine q env σ Z H F _ o r (w.bind.mono (Pin.refl _ _) (Ext.refl o) ?_)
  intro d env1 k v Z1 H1 Fv F1 x rv r1 sm
  split at k
  case isFalse => exact k.elim
  rename_i hz
  have := RdV.fzn d v Fv hz rv
  subst this
  refine ⟨Nat.le_add_left 1 999, fun a ha => ⟨a, v, rfl, upd_same, fun dx hdx hne => ⟨rfl, dx, [(PySem.Str.ofString f, v)], ?_, ?_, ?_, ?_⟩⟩⟩
  · exact upd_same
  · rw [upd_ne hne, upd_same]
  · rw [upd_ne hne] at hdx; exact hdx
  · rw [upd_ne hne] at hdx
    have e : upd (del (upd (upd (upd H1 a (exo a C none)) dx (exd dx [(PySem.Str.ofString f, v)])) a (exo a C (some dx))) a) dx (.xd [(PySem.Str.ofString f, v)]) = upd H1 dx (.xd [(PySem.Str.ofString f, v)]) := by
      funext b
      by_cases q : b = dx
      · rw [q, upd_same, upd_same]
      · rw [upd_ne q, upd_ne q]
        by_cases p : b = a
        · rw [p, del_same, ha]
        · rw [del_ne p, upd_ne p, upd_ne q, upd_ne p]
    rw [e]
    refine ⟨C, rfl, fun a2 na => ?_⟩
    have y := Ext.junk (o := .xd [(PySem.Str.ofString f, v)]) x.ok.split hdx
    have r2 := r1.same (Same.refl _) (same_new (o := .xd [(PySem.Str.ofString f, v)]) hdx)
    obtain ⟨Z', x2, rv2, r3⟩ := exn_rd (c := c) (fs := [(f, d)]) (us := [(PySem.Str.ofString f, v)]) (d := some dx) hC upd_same (by
      rw [RdF]
      refine ⟨v, [], [], [], rfl, rfl, rv.same (Same.refl _) (same_new hdx), ?_⟩
      rw [RdF]
      exact ⟨rfl, rfl⟩) y.ok r2 na
    exact k (.ref a2) Z' _ [] F1 ((x.right.trans y).trans x2) rv2 r3 fun h => (sm h).trans ((same_new hdx).trans (same_new na))
end
end Mi
set_option maxHeartbeats 4000000
namespace Mi
open PySem PySem.Spec PyProof.Rows L2 RZ Ov PpSet
noncomputable def b_l_kinds : MS :=
  (sSeq (sAsg (gN 1) (eLst (lCons (e1 (fIsX ["CommandError", "InvalidCode", "InvalidCountdowns", "InvalidEntries", "InvalidEntry", "InvalidInstructionSet", "InvalidLengths", "InvalidNumber", "InvalidOffset", "InvalidProgram", "InvalidTimes", "NothingToUndo", "ParseError", "TooLong", "TooManyStates", "OverlapError"] ["CommandError"]) (eV 0)) (lCons (e1 (fIsX ["CommandError", "InvalidCode", "InvalidCountdowns", "InvalidEntries", "InvalidEntry", "InvalidInstructionSet", "InvalidLengths", "InvalidNumber", "InvalidOffset", "InvalidProgram", "InvalidTimes", "NothingToUndo", "ParseError", "TooLong", "TooManyStates", "OverlapError"] ["InvalidCode"]) (eV 0)) (lCons (e1 (fIsX ["CommandError", "InvalidCode", "InvalidCountdowns", "InvalidEntries", "InvalidEntry", "InvalidInstructionSet", "InvalidLengths", "InvalidNumber", "InvalidOffset", "InvalidProgram", "InvalidTimes", "NothingToUndo", "ParseError", "TooLong", "TooManyStates", "OverlapError"] ["InvalidCountdowns"]) (eV 0)) lNil)))))
  (sSeq (sAsg (gN 1) (e2 fAdd (eVk 1) (eLst (lCons (e1 (fIsX ["CommandError", "InvalidCode", "InvalidCountdowns", "InvalidEntries", "InvalidEntry", "InvalidInstructionSet", "InvalidLengths", "InvalidNumber", "InvalidOffset", "InvalidProgram", "InvalidTimes", "NothingToUndo", "ParseError", "TooLong", "TooManyStates", "OverlapError"] ["InvalidEntries"]) (eV 0)) (lCons (e1 (fIsX ["CommandError", "InvalidCode", "InvalidCountdowns", "InvalidEntries", "InvalidEntry", "InvalidInstructionSet", "InvalidLengths", "InvalidNumber", "InvalidOffset", "InvalidProgram", "InvalidTimes", "NothingToUndo", "ParseError", "TooLong", "TooManyStates", "OverlapError"] ["InvalidEntry"]) (eV 0)) lNil)))))
  (sSeq (sAsg (gN 1) (e2 fAdd (eVk 1) (eLst (lCons (e1 (fIsX ["CommandError", "InvalidCode", "InvalidCountdowns", "InvalidEntries", "InvalidEntry", "InvalidInstructionSet", "InvalidLengths", "InvalidNumber", "InvalidOffset", "InvalidProgram", "InvalidTimes", "NothingToUndo", "ParseError", "TooLong", "TooManyStates", "OverlapError"] ["InvalidInstructionSet"]) (eV 0)) (lCons (e1 (fIsX ["CommandError", "InvalidCode", "InvalidCountdowns", "InvalidEntries", "InvalidEntry", "InvalidInstructionSet", "InvalidLengths", "InvalidNumber", "InvalidOffset", "InvalidProgram", "InvalidTimes", "NothingToUndo", "ParseError", "TooLong", "TooManyStates", "OverlapError"] ["InvalidLengths"]) (eV 0)) lNil)))))
  (sSeq (sAsg (gN 1) (e2 fAdd (eVk 1) (eLst (lCons (e1 (fIsX ["CommandError", "InvalidCode", "InvalidCountdowns", "InvalidEntries", "InvalidEntry", "InvalidInstructionSet", "InvalidLengths", "InvalidNumber", "InvalidOffset", "InvalidProgram", "InvalidTimes", "NothingToUndo", "ParseError", "TooLong", "TooManyStates", "OverlapError"] ["InvalidNumber"]) (eV 0)) (lCons (e1 (fIsX ["CommandError", "InvalidCode", "InvalidCountdowns", "InvalidEntries", "InvalidEntry", "InvalidInstructionSet", "InvalidLengths", "InvalidNumber", "InvalidOffset", "InvalidProgram", "InvalidTimes", "NothingToUndo", "ParseError", "TooLong", "TooManyStates", "OverlapError"] ["InvalidOffset"]) (eV 0)) lNil)))))
  (sSeq (sAsg (gN 1) (e2 fAdd (eVk 1) (eLst (lCons (e1 (fIsX ["CommandError", "InvalidCode", "InvalidCountdowns", "InvalidEntries", "InvalidEntry", "InvalidInstructionSet", "InvalidLengths", "InvalidNumber", "InvalidOffset", "InvalidProgram", "InvalidTimes", "NothingToUndo", "ParseError", "TooLong", "TooManyStates", "OverlapError"] ["InvalidProgram"]) (eV 0)) lNil))))
  (sSeq (sAsg (gN 1) (e2 fAdd (eVk 1) (eLst (lCons (e1 (fIsX ["CommandError", "InvalidCode", "InvalidCountdowns", "InvalidEntries", "InvalidEntry", "InvalidInstructionSet", "InvalidLengths", "InvalidNumber", "InvalidOffset", "InvalidProgram", "InvalidTimes", "NothingToUndo", "ParseError", "TooLong", "TooManyStates", "OverlapError"] ["InvalidTimes"]) (eV 0)) (lCons (e1 (fIsX ["CommandError", "InvalidCode", "InvalidCountdowns", "InvalidEntries", "InvalidEntry", "InvalidInstructionSet", "InvalidLengths", "InvalidNumber", "InvalidOffset", "InvalidProgram", "InvalidTimes", "NothingToUndo", "ParseError", "TooLong", "TooManyStates", "OverlapError"] ["NothingToUndo"]) (eV 0)) (lCons (e1 (fIsX ["CommandError", "InvalidCode", "InvalidCountdowns", "InvalidEntries", "InvalidEntry", "InvalidInstructionSet", "InvalidLengths", "InvalidNumber", "InvalidOffset", "InvalidProgram", "InvalidTimes", "NothingToUndo", "ParseError", "TooLong", "TooManyStates", "OverlapError"] ["ParseError"]) (eV 0)) lNil))))))
  (sRet (e2 fAdd (eVk 1) (eLst (lCons (e1 (fIsX ["CommandError", "InvalidCode", "InvalidCountdowns", "InvalidEntries", "InvalidEntry", "InvalidInstructionSet", "InvalidLengths", "InvalidNumber", "InvalidOffset", "InvalidProgram", "InvalidTimes", "NothingToUndo", "ParseError", "TooLong", "TooManyStates", "OverlapError"] ["TooLong"]) (eV 0)) (lCons (e1 (fIsX ["CommandError", "InvalidCode", "InvalidCountdowns", "InvalidEntries", "InvalidEntry", "InvalidInstructionSet", "InvalidLengths", "InvalidNumber", "InvalidOffset", "InvalidProgram", "InvalidTimes", "NothingToUndo", "ParseError", "TooLong", "TooManyStates", "OverlapError"] ["TooManyStates"]) (eV 0)) lNil)))))))))))
noncomputable def m_l_kinds : Fun := fnOf 1 [false] b_l_kinds
noncomputable def lb_l_made_1 : MS :=
  (sExpr (mList (2, none) (lCons (eLst (lCons (eVk 1) (lCons (eK (eXf ["CommandError", "InvalidCode", "InvalidCountdowns", "InvalidEntries", "InvalidEntry", "InvalidInstructionSet", "InvalidLengths", "InvalidNumber", "InvalidOffset", "InvalidProgram", "InvalidTimes", "NothingToUndo", "ParseError", "TooLong", "TooManyStates", "OverlapError"] "value" (eV 1))) lNil))) lNil) fAppend))
noncomputable def lp_l_made_1 : MS :=
  (sFor (iSeq (eTup (lCons (eMkX "InvalidLengths" "value" (eVk 0)) (lCons (eMkX "InvalidNumber" "value" (eVk 0)) (lCons (eMkX "InvalidOffset" "value" (eVk 0)) (lCons (eMkX "InvalidProgram" "value" (eVk 0)) lNil)))))) (gN 1) lb_l_made_1)
noncomputable def lb_l_made_2 : MS :=
  (sExpr (mList (2, none) (lCons (eLst (lCons (eVk 1) (lCons (eK (eXf ["CommandError", "InvalidCode", "InvalidCountdowns", "InvalidEntries", "InvalidEntry", "InvalidInstructionSet", "InvalidLengths", "InvalidNumber", "InvalidOffset", "InvalidProgram", "InvalidTimes", "NothingToUndo", "ParseError", "TooLong", "TooManyStates", "OverlapError"] "value" (eV 1))) lNil))) lNil) fAppend))
noncomputable def lp_l_made_2 : MS :=
  (sFor (iSeq (eTup (lCons (eMkX "InvalidCode" "value" (eVk 0)) (lCons (eMkX "InvalidCountdowns" "value" (eVk 0)) (lCons (eMkX "InvalidEntries" "value" (eVk 0)) (lCons (eMkX "InvalidEntry" "value" (eVk 0)) lNil)))))) (gN 1) lb_l_made_2)
noncomputable def b_l_made : MS :=
  (sSeq (sAsg (gN 1) (eMkX "CommandError" "line" (eVk 0)))
  (sSeq (sAsg (gN 2) (eLst (lCons (eLst (lCons (eVk 1) (lCons (eK (eXf ["CommandError", "InvalidCode", "InvalidCountdowns", "InvalidEntries", "InvalidEntry", "InvalidInstructionSet", "InvalidLengths", "InvalidNumber", "InvalidOffset", "InvalidProgram", "InvalidTimes", "NothingToUndo", "ParseError", "TooLong", "TooManyStates", "OverlapError"] "line" (eV 1))) lNil))) lNil)))
  (sSeq lp_l_made_2
  (sSeq (sAsg (gN 1) (eMkX "InvalidInstructionSet" "field" (eVk 0)))
  (sSeq (sExpr (mList (2, none) (lCons (eLst (lCons (eVk 1) (lCons (eK (eXf ["CommandError", "InvalidCode", "InvalidCountdowns", "InvalidEntries", "InvalidEntry", "InvalidInstructionSet", "InvalidLengths", "InvalidNumber", "InvalidOffset", "InvalidProgram", "InvalidTimes", "NothingToUndo", "ParseError", "TooLong", "TooManyStates", "OverlapError"] "field" (eV 1))) lNil))) lNil) fAppend))
  (sSeq lp_l_made_1
  (sSeq (sPar 1 3 (lCons (eMkX "InvalidTimes" "value" (eVk 0)) (lCons (eMkX "ParseError" "line" (eVk 0)) lNil)))
  (sSeq (sExpr (mList (2, none) (lCons (eFk (eLst (lCons (eLst (lCons (eVk 1) (lCons (eK (eXf ["CommandError", "InvalidCode", "InvalidCountdowns", "InvalidEntries", "InvalidEntry", "InvalidInstructionSet", "InvalidLengths", "InvalidNumber", "InvalidOffset", "InvalidProgram", "InvalidTimes", "NothingToUndo", "ParseError", "TooLong", "TooManyStates", "OverlapError"] "value" (eV 1))) lNil))) (lCons (eLst (lCons (eMkN "NothingToUndo") (lCons (eVk 0) lNil))) (lCons (eLst (lCons (eVk 3) (lCons (eK (eXf ["CommandError", "InvalidCode", "InvalidCountdowns", "InvalidEntries", "InvalidEntry", "InvalidInstructionSet", "InvalidLengths", "InvalidNumber", "InvalidOffset", "InvalidProgram", "InvalidTimes", "NothingToUndo", "ParseError", "TooLong", "TooManyStates", "OverlapError"] "line" (eV 3))) lNil))) lNil))))) lNil) fExtend))
  (sSeq (sPar 1 3 (lCons (eMkX "TooLong" "size" (eVk 0)) (lCons (eMkX "TooManyStates" "count" (eVk 0)) lNil)))
  (sRet (e2 fAdd (eVk 2) (eFk (eLst (lCons (eLst (lCons (eVk 1) (lCons (eK (eXf ["CommandError", "InvalidCode", "InvalidCountdowns", "InvalidEntries", "InvalidEntry", "InvalidInstructionSet", "InvalidLengths", "InvalidNumber", "InvalidOffset", "InvalidProgram", "InvalidTimes", "NothingToUndo", "ParseError", "TooLong", "TooManyStates", "OverlapError"] "size" (eV 1))) lNil))) (lCons (eLst (lCons (eVk 3) (lCons (eK (eXf ["CommandError", "InvalidCode", "InvalidCountdowns", "InvalidEntries", "InvalidEntry", "InvalidInstructionSet", "InvalidLengths", "InvalidNumber", "InvalidOffset", "InvalidProgram", "InvalidTimes", "NothingToUndo", "ParseError", "TooLong", "TooManyStates", "OverlapError"] "count" (eV 3))) lNil))) lNil)))))))))))))))
noncomputable def m_l_made : Fun := fnOf 3 [false] b_l_made
noncomputable def ce_law_k20_1 : ME :=
  (e2 fEq2 (eV 4) (eV 8))
noncomputable def cp_law_k20_1 : ME :=
  (eLc (iOf rng1 (lCons (eC (.int 15)) lNil)) (gN 8) bYes ce_law_k20_1 [8])
noncomputable def lb_law_k20_1 : MS :=
  (sSeq (sAsg (gUL (gsCons (gN 6) (gsCons (gN 7) gsNil))) (eVk 5))
  (sSeq (sIf (bOr (bB (e2 fNe2 (eCall m_l_kinds [.e (eVk 6)]) cp_law_k20_1)) (bB (e2 fNe2 (eL fReprV (lCons (eV 7) lNil)) (eL fReprV (lCons (eV 3) lNil))))) (sRet (eC (.bl false))) sPass)
  (sIf (bOr (bNot (bB (e1 (fIsX ["CommandError", "InvalidCode", "InvalidCountdowns", "InvalidEntries", "InvalidEntry", "InvalidInstructionSet", "InvalidLengths", "InvalidNumber", "InvalidOffset", "InvalidProgram", "InvalidTimes", "NothingToUndo", "ParseError", "TooLong", "TooManyStates", "OverlapError"] ["OverlapError"]) (eV 6)))) (bNot (bB (e1 (fIsX ["CommandError", "InvalidCode", "InvalidCountdowns", "InvalidEntries", "InvalidEntry", "InvalidInstructionSet", "InvalidLengths", "InvalidNumber", "InvalidOffset", "InvalidProgram", "InvalidTimes", "NothingToUndo", "ParseError", "TooLong", "TooManyStates", "OverlapError"] ["ValueError"]) (eV 6))))) (sRet (eC (.bl false))) sPass)))
noncomputable def lp_law_k20_1 : MS :=
  (sFor (iOf enumD (lCons (eFk (eCall m_l_made [.e (eVk 3)])) lNil)) (gT (gsCons (gN 4) (gsCons (gN 5) gsNil))) lb_law_k20_1)
noncomputable def lb_law_k20_2 : MS :=
  lp_law_k20_1
noncomputable def lp_law_k20_2 : MS :=
  (sFor (iSeq (eLst (lCons (eC .non) (lCons (eC (.bl true)) (lCons (eCall m_l_take [.io 2, .e (eFk (e2 fPow (eC (.int 10)) (eC (.int 9))))]) (lCons (eC (.str (PySem.Str.ofString ""))) (lCons (eC (.str (PySem.Str.ofString "line"))) (lCons (eTup lNil) (lCons (eLst lNil) (lCons eDNew (lCons (eTup (lCons (eTup (lCons (eC (.int 1)) (lCons (eC .non) lNil))) lNil)) (lCons (e1 fNeg (eC (.int 1))) lNil)))))))))))) (gN 3) lb_law_k20_2)
noncomputable def lb_law_k20_3 : MS :=
  (sSeq (sAsg (gN 2) (eCall m_l_box [.e (eVk 0), .e (eVk 1)]))
  lp_law_k20_2)
noncomputable def lp_law_k20_3 : MS :=
  (sFor (iOf rng1 (lCons (e2 fAdd (eC (.int 1)) (eL fMin2 (lCons (eC (.int 3)) (lCons (eL fLen (lCons (eV 0) lNil)) lNil)))) lNil)) (gN 1) lb_law_k20_3)
noncomputable def b_law_k20 : MS :=
  (sSeq (sIf (bB (e2 fIn (eC (.bl true)) (eCall m_l_kinds [.e (eFk (eMkN "OverlapError"))]))) (sRet (eC (.bl false))) sPass)
  (sSeq lp_law_k20_3
  (sRet (eC (.bl true)))))
noncomputable def m_law_k20 : Fun := fnOf 8 [false] b_law_k20
end Mi
set_option maxHeartbeats 4000000
namespace Mi
open PySem PySem.Spec PyProof.Rows L2 RZ Ov PpSet
theorem lenN_1 {α : Type} {us : List α} (h : us.length = 1) : ∃ a0, us = [a0] := match us, h with | [a0], _ => ⟨a0, rfl⟩
theorem lenN_2 {α : Type} {us : List α} (h : us.length = 2) : ∃ a0 a1, us = [a0, a1] := match us, h with | [a0, a1], _ => ⟨a0, a1, rfl⟩
def top (i : Nat) : Stmt := PySem.Challenge.pw_overlapcode_k20_errors.main.body.getD i (.Pass ⟨0, 0, 0, 0⟩)
abbrev s_l_kinds : Stmt := top 20
abbrev n_l_kinds : List Str := ["_law_error", "_law_some"]
theorem sc_l_kinds : FnScope n_l_kinds ["_law_error"] (defScope s_l_kinds) := ⟨rfl, rfl, rfl, by decide +kernel, rfl, by decide +kernel, by decide +kernel⟩
abbrev s_l_box : Stmt := top 18
abbrev n_l_box : List Str := ["_law_script", "_law_k", "_law_cell", "_law_own"]
theorem sc_l_box : FnScope n_l_box ["_law_script", "_law_k"] (defScope s_l_box) := ⟨rfl, rfl, rfl, by decide +kernel, rfl, by decide +kernel, by decide +kernel⟩
abbrev s_l_take : Stmt := top 19
abbrev n_l_take : List Str := ["_law_box_here", "_law_many", "_law_digit", "_law_mixed"]
theorem sc_l_take : FnScope n_l_take ["_law_box_here", "_law_many"] (defScope s_l_take) := ⟨rfl, rfl, rfl, by decide +kernel, rfl, by decide +kernel, by decide +kernel⟩
abbrev s_l_made : Stmt := top 21
abbrev n_l_made : List Str := ["_law_value", "_law_error", "_law_some", "_law_last"]
theorem sc_l_made : FnScope n_l_made ["_law_value"] (defScope s_l_made) := ⟨rfl, rfl, rfl, by decide +kernel, rfl, by decide +kernel, by decide +kernel⟩
abbrev s_law : Stmt := top 22
abbrev n_law : List Str := ["_law_script", "_law_k", "_law_box_here", "_law_value", "_law_at", "_law_pair", "_law_error", "_law_told", "_law_other"]
theorem sc_law : FnScope n_law ["_law_script"] (defScope s_law) := ⟨rfl, rfl, rfl, by decide +kernel, rfl, by decide +kernel, by decide +kernel⟩
structure TX (P : Program) (w : World) (K : PySem.W.Frag) (mg : Str → Option Value) (base : Heap) (cls : String → Option Addr) (Ω : List (Addr × Str)) : Prop where
  blt : Blt mg
  ex : ExcL K cls ["CommandError", "InvalidCode", "InvalidCountdowns", "InvalidEntries", "InvalidEntry", "InvalidInstructionSet", "InvalidLengths", "InvalidNumber", "InvalidOffset", "InvalidProgram", "InvalidTimes", "NothingToUndo", "ParseError", "TooLong", "TooManyStates", "OverlapError"]
  i_CommandError : IsT K mg cls ["CommandError", "InvalidCode", "InvalidCountdowns", "InvalidEntries", "InvalidEntry", "InvalidInstructionSet", "InvalidLengths", "InvalidNumber", "InvalidOffset", "InvalidProgram", "InvalidTimes", "NothingToUndo", "ParseError", "TooLong", "TooManyStates", "OverlapError"] "CommandError"
  i_InvalidCode : IsT K mg cls ["CommandError", "InvalidCode", "InvalidCountdowns", "InvalidEntries", "InvalidEntry", "InvalidInstructionSet", "InvalidLengths", "InvalidNumber", "InvalidOffset", "InvalidProgram", "InvalidTimes", "NothingToUndo", "ParseError", "TooLong", "TooManyStates", "OverlapError"] "InvalidCode"
  i_InvalidCountdowns : IsT K mg cls ["CommandError", "InvalidCode", "InvalidCountdowns", "InvalidEntries", "InvalidEntry", "InvalidInstructionSet", "InvalidLengths", "InvalidNumber", "InvalidOffset", "InvalidProgram", "InvalidTimes", "NothingToUndo", "ParseError", "TooLong", "TooManyStates", "OverlapError"] "InvalidCountdowns"
  i_InvalidEntries : IsT K mg cls ["CommandError", "InvalidCode", "InvalidCountdowns", "InvalidEntries", "InvalidEntry", "InvalidInstructionSet", "InvalidLengths", "InvalidNumber", "InvalidOffset", "InvalidProgram", "InvalidTimes", "NothingToUndo", "ParseError", "TooLong", "TooManyStates", "OverlapError"] "InvalidEntries"
  i_InvalidEntry : IsT K mg cls ["CommandError", "InvalidCode", "InvalidCountdowns", "InvalidEntries", "InvalidEntry", "InvalidInstructionSet", "InvalidLengths", "InvalidNumber", "InvalidOffset", "InvalidProgram", "InvalidTimes", "NothingToUndo", "ParseError", "TooLong", "TooManyStates", "OverlapError"] "InvalidEntry"
  i_InvalidInstructionSet : IsT K mg cls ["CommandError", "InvalidCode", "InvalidCountdowns", "InvalidEntries", "InvalidEntry", "InvalidInstructionSet", "InvalidLengths", "InvalidNumber", "InvalidOffset", "InvalidProgram", "InvalidTimes", "NothingToUndo", "ParseError", "TooLong", "TooManyStates", "OverlapError"] "InvalidInstructionSet"
  i_InvalidLengths : IsT K mg cls ["CommandError", "InvalidCode", "InvalidCountdowns", "InvalidEntries", "InvalidEntry", "InvalidInstructionSet", "InvalidLengths", "InvalidNumber", "InvalidOffset", "InvalidProgram", "InvalidTimes", "NothingToUndo", "ParseError", "TooLong", "TooManyStates", "OverlapError"] "InvalidLengths"
  i_InvalidNumber : IsT K mg cls ["CommandError", "InvalidCode", "InvalidCountdowns", "InvalidEntries", "InvalidEntry", "InvalidInstructionSet", "InvalidLengths", "InvalidNumber", "InvalidOffset", "InvalidProgram", "InvalidTimes", "NothingToUndo", "ParseError", "TooLong", "TooManyStates", "OverlapError"] "InvalidNumber"
  i_InvalidOffset : IsT K mg cls ["CommandError", "InvalidCode", "InvalidCountdowns", "InvalidEntries", "InvalidEntry", "InvalidInstructionSet", "InvalidLengths", "InvalidNumber", "InvalidOffset", "InvalidProgram", "InvalidTimes", "NothingToUndo", "ParseError", "TooLong", "TooManyStates", "OverlapError"] "InvalidOffset"
  i_InvalidProgram : IsT K mg cls ["CommandError", "InvalidCode", "InvalidCountdowns", "InvalidEntries", "InvalidEntry", "InvalidInstructionSet", "InvalidLengths", "InvalidNumber", "InvalidOffset", "InvalidProgram", "InvalidTimes", "NothingToUndo", "ParseError", "TooLong", "TooManyStates", "OverlapError"] "InvalidProgram"
  i_InvalidTimes : IsT K mg cls ["CommandError", "InvalidCode", "InvalidCountdowns", "InvalidEntries", "InvalidEntry", "InvalidInstructionSet", "InvalidLengths", "InvalidNumber", "InvalidOffset", "InvalidProgram", "InvalidTimes", "NothingToUndo", "ParseError", "TooLong", "TooManyStates", "OverlapError"] "InvalidTimes"
  i_NothingToUndo : IsT K mg cls ["CommandError", "InvalidCode", "InvalidCountdowns", "InvalidEntries", "InvalidEntry", "InvalidInstructionSet", "InvalidLengths", "InvalidNumber", "InvalidOffset", "InvalidProgram", "InvalidTimes", "NothingToUndo", "ParseError", "TooLong", "TooManyStates", "OverlapError"] "NothingToUndo"
  i_OverlapError : IsT K mg cls ["CommandError", "InvalidCode", "InvalidCountdowns", "InvalidEntries", "InvalidEntry", "InvalidInstructionSet", "InvalidLengths", "InvalidNumber", "InvalidOffset", "InvalidProgram", "InvalidTimes", "NothingToUndo", "ParseError", "TooLong", "TooManyStates", "OverlapError"] "OverlapError"
  i_ParseError : IsT K mg cls ["CommandError", "InvalidCode", "InvalidCountdowns", "InvalidEntries", "InvalidEntry", "InvalidInstructionSet", "InvalidLengths", "InvalidNumber", "InvalidOffset", "InvalidProgram", "InvalidTimes", "NothingToUndo", "ParseError", "TooLong", "TooManyStates", "OverlapError"] "ParseError"
  i_TooLong : IsT K mg cls ["CommandError", "InvalidCode", "InvalidCountdowns", "InvalidEntries", "InvalidEntry", "InvalidInstructionSet", "InvalidLengths", "InvalidNumber", "InvalidOffset", "InvalidProgram", "InvalidTimes", "NothingToUndo", "ParseError", "TooLong", "TooManyStates", "OverlapError"] "TooLong"
  i_TooManyStates : IsT K mg cls ["CommandError", "InvalidCode", "InvalidCountdowns", "InvalidEntries", "InvalidEntry", "InvalidInstructionSet", "InvalidLengths", "InvalidNumber", "InvalidOffset", "InvalidProgram", "InvalidTimes", "NothingToUndo", "ParseError", "TooLong", "TooManyStates", "OverlapError"] "TooManyStates"
  i_ValueError : IsT K mg cls ["CommandError", "InvalidCode", "InvalidCountdowns", "InvalidEntries", "InvalidEntry", "InvalidInstructionSet", "InvalidLengths", "InvalidNumber", "InvalidOffset", "InvalidProgram", "InvalidTimes", "NothingToUndo", "ParseError", "TooLong", "TooManyStates", "OverlapError"] "ValueError"
  x_count : ∀ c Ca, ["CommandError", "InvalidCode", "InvalidCountdowns", "InvalidEntries", "InvalidEntry", "InvalidInstructionSet", "InvalidLengths", "InvalidNumber", "InvalidOffset", "InvalidProgram", "InvalidTimes", "NothingToUndo", "ParseError", "TooLong", "TooManyStates", "OverlapError"].contains c = true → cls c = some Ca → PySem.W.findIn K (.ref Ca) (PySem.Str.ofString "count") = some none
  x_field : ∀ c Ca, ["CommandError", "InvalidCode", "InvalidCountdowns", "InvalidEntries", "InvalidEntry", "InvalidInstructionSet", "InvalidLengths", "InvalidNumber", "InvalidOffset", "InvalidProgram", "InvalidTimes", "NothingToUndo", "ParseError", "TooLong", "TooManyStates", "OverlapError"].contains c = true → cls c = some Ca → PySem.W.findIn K (.ref Ca) (PySem.Str.ofString "field") = some none
  x_line : ∀ c Ca, ["CommandError", "InvalidCode", "InvalidCountdowns", "InvalidEntries", "InvalidEntry", "InvalidInstructionSet", "InvalidLengths", "InvalidNumber", "InvalidOffset", "InvalidProgram", "InvalidTimes", "NothingToUndo", "ParseError", "TooLong", "TooManyStates", "OverlapError"].contains c = true → cls c = some Ca → PySem.W.findIn K (.ref Ca) (PySem.Str.ofString "line") = some none
  x_size : ∀ c Ca, ["CommandError", "InvalidCode", "InvalidCountdowns", "InvalidEntries", "InvalidEntry", "InvalidInstructionSet", "InvalidLengths", "InvalidNumber", "InvalidOffset", "InvalidProgram", "InvalidTimes", "NothingToUndo", "ParseError", "TooLong", "TooManyStates", "OverlapError"].contains c = true → cls c = some Ca → PySem.W.findIn K (.ref Ca) (PySem.Str.ofString "size") = some none
  x_value : ∀ c Ca, ["CommandError", "InvalidCode", "InvalidCountdowns", "InvalidEntries", "InvalidEntry", "InvalidInstructionSet", "InvalidLengths", "InvalidNumber", "InvalidOffset", "InvalidProgram", "InvalidTimes", "NothingToUndo", "ParseError", "TooLong", "TooManyStates", "OverlapError"].contains c = true → cls c = some Ca → PySem.W.findIn K (.ref Ca) (PySem.Str.ofString "value") = some none
  e_CommandError : ErrT P w K mg base cls "CommandError" "line"
  e_InvalidCode : ErrT P w K mg base cls "InvalidCode" "value"
  e_InvalidCountdowns : ErrT P w K mg base cls "InvalidCountdowns" "value"
  e_InvalidEntries : ErrT P w K mg base cls "InvalidEntries" "value"
  e_InvalidEntry : ErrT P w K mg base cls "InvalidEntry" "value"
  e_InvalidInstructionSet : ErrT P w K mg base cls "InvalidInstructionSet" "field"
  e_InvalidLengths : ErrT P w K mg base cls "InvalidLengths" "value"
  e_InvalidNumber : ErrT P w K mg base cls "InvalidNumber" "value"
  e_InvalidOffset : ErrT P w K mg base cls "InvalidOffset" "value"
  e_InvalidProgram : ErrT P w K mg base cls "InvalidProgram" "value"
  e_InvalidTimes : ErrT P w K mg base cls "InvalidTimes" "value"
  e_ParseError : ErrT P w K mg base cls "ParseError" "line"
  e_TooLong : ErrT P w K mg base cls "TooLong" "size"
  e_TooManyStates : ErrT P w K mg base cls "TooManyStates" "count"
  n_NothingToUndo : ErrN K mg cls "NothingToUndo"
  n_OverlapError : ErrN K mg cls "OverlapError"
  a_l_kinds : ∃ f fd, At K mg "_law_kinds" s_l_kinds f fd
  a_l_box : ∃ f fd, At K mg "_law_box" s_l_box f fd
  a_l_take : ∃ f fd, At K mg "_law_take" s_l_take f fd
  a_l_made : ∃ f fd, At K mg "_law_made" s_l_made f fd
section
variable {P : Program} {w : World} {K : PySem.W.Frag} {mg : Str → Option Value} {base : Heap} {cls : String → Option Addr} {Ω : List (Addr × Str)}
theorem ok_l_kinds (T : TX P w K mg base cls Ω) : Cal P w K mg base CX0 1 "_law_kinds" ["_law_error"] (spM ⟨K, cls, P, w, Ω⟩ false [false] m_l_kinds) := by
  obtain ⟨f, fd, F⟩ := T.a_l_kinds
  refine cal_M (m := b_l_kinds) F (F.fn.binds (fun _ _ _ _ _ _ us hl => by
    obtain ⟨_, rfl⟩ := lenN_1 hl
    rfl)) sc_l_kinds rfl rfl ?_
  intro cdv A outer s H E hr
  refine with_ag ⟨rfl, rfl, rfl⟩ fun ag => ?_
  exact (qss_cons (qs_set (i := 1) (q_lst (qa_cons (q_isX ag T.ex T.i_CommandError T.blt.b_isinstance (qv 0)) (qa_cons (q_isX ag T.ex T.i_InvalidCode T.blt.b_isinstance (qv 0)) (qa_cons (q_isX ag T.ex T.i_InvalidCountdowns T.blt.b_isinstance (qv 0)) qa_nil)))) sc_l_kinds.nd)
    (qss_cons (qs_set (i := 1) (q_op (o_add _ ag.K) f_add (QE.t (qvk 1)) (QE.t (q_lst (qa_cons (q_isX ag T.ex T.i_InvalidEntries T.blt.b_isinstance (qv 0)) (qa_cons (q_isX ag T.ex T.i_InvalidEntry T.blt.b_isinstance (qv 0)) qa_nil))))) sc_l_kinds.nd)
    (qss_cons (qs_set (i := 1) (q_op (o_add _ ag.K) f_add (QE.t (qvk 1)) (QE.t (q_lst (qa_cons (q_isX ag T.ex T.i_InvalidInstructionSet T.blt.b_isinstance (qv 0)) (qa_cons (q_isX ag T.ex T.i_InvalidLengths T.blt.b_isinstance (qv 0)) qa_nil))))) sc_l_kinds.nd)
    (qss_cons (qs_set (i := 1) (q_op (o_add _ ag.K) f_add (QE.t (qvk 1)) (QE.t (q_lst (qa_cons (q_isX ag T.ex T.i_InvalidNumber T.blt.b_isinstance (qv 0)) (qa_cons (q_isX ag T.ex T.i_InvalidOffset T.blt.b_isinstance (qv 0)) qa_nil))))) sc_l_kinds.nd)
    (qss_cons (qs_set (i := 1) (q_op (o_add _ ag.K) f_add (QE.t (qvk 1)) (QE.t (q_lst (qa_cons (q_isX ag T.ex T.i_InvalidProgram T.blt.b_isinstance (qv 0)) qa_nil)))) sc_l_kinds.nd)
    (qss_cons (qs_set (i := 1) (q_op (o_add _ ag.K) f_add (QE.t (qvk 1)) (QE.t (q_lst (qa_cons (q_isX ag T.ex T.i_InvalidTimes T.blt.b_isinstance (qv 0)) (qa_cons (q_isX ag T.ex T.i_NothingToUndo T.blt.b_isinstance (qv 0)) (qa_cons (q_isX ag T.ex T.i_ParseError T.blt.b_isinstance (qv 0)) qa_nil)))))) sc_l_kinds.nd)
    (qss_one (qs_ret (q_op (o_add _ ag.K) f_add (QE.t (qvk 1)) (QE.t (q_lst (qa_cons (q_isX ag T.ex T.i_TooLong T.blt.b_isinstance (qv 0)) (qa_cons (q_isX ag T.ex T.i_TooManyStates T.blt.b_isinstance (qv 0)) qa_nil)))))))))))))
theorem ok_l_box (T : TX P w K mg base cls Ω) : Cal P w K mg base CX0 1 "_law_box" ["_law_script", "_law_k"] (spM ⟨K, cls, P, w, Ω⟩ false [false, false] m_l_box) := by
  obtain ⟨f, fd, F⟩ := T.a_l_box
  refine cal_M (m := b_l_box) F (F.fn.binds (fun _ _ _ _ _ _ us hl => by
    obtain ⟨_, _, rfl⟩ := lenN_2 hl
    rfl)) sc_l_box rfl rfl ?_
  intro cdv A outer s H E hr
  refine with_ag ⟨rfl, rfl, rfl⟩ fun ag => ?_
  exact (qss_cons (qs_set (i := 2) (q_ifx (q_tcmp op_lt f_lt (qv 1) (QE.t (q_callB (o_len _ ag.K ag.P ag.w) f_len T.blt.b_len PySem.boot_len (qta_cons (qv 0) qta_nil)))) (QT.k (q_ix ag hr.r.units (qv 0) (qv 1))) q_int) sc_l_box.nd)
    (qss_cons (qs_set (i := 3) (q_op (o_mul _ ag.K) f_mul (QE.t (q_op op_mod f_mod (QE.t (q_callB call_abs f_abs T.blt.b_abs (by decide +kernel) (qta_cons (qv 2) qta_nil))) (QE.t (q_op (o_mul _ ag.K) f_mul (QE.t (q_op (o_mul _ ag.K) f_mul (QE.t (q_op (o_mul _ ag.K) f_mul (QE.t (q_op op_pow f_pow (QE.t q_int) (QE.t q_int))) (QE.t (q_op op_pow f_pow (QE.t q_int) (QE.t q_int))))) (QE.t (q_op op_pow f_pow (QE.t q_int) (QE.t q_int))))) (QE.t (q_op op_pow f_pow (QE.t q_int) (QE.t q_int))))))) (QE.t (q_callT call_int1 f_int T.blt.b_int (by decide +kernel) (qta_cons (QE.t (q_cmp op_ge f_ge (QE.t (q_callB call_abs f_abs T.blt.b_abs (by decide +kernel) (qta_cons (qv 2) qta_nil))) (QE.t (q_op op_pow f_pow (QE.t q_int) (QE.t q_int))))) qta_nil)))) sc_l_box.nd)
    (qss_one (qs_ret (q_lst (qa_cons (qvk 3) (qa_cons (q_op op_mod f_mod (QE.t (q_op (o_mul _ ag.K) f_mul (QE.t (q_op (o_add _ ag.K) f_add (QE.t (q_op (o_add _ ag.K) f_add (QE.t (q_op op_mod f_mod (qv 2) (QE.t q_int))) (QE.t (q_op (o_mul _ ag.K) f_mul (QE.t (q_op (o_mul _ ag.K) f_mul (QE.t q_int) (qv 1))) (qv 1))))) (QE.t q_int))) (QE.t q_int))) (QE.t q_int)) (qa_cons q_int qa_nil))))))))
theorem ok_l_take (T : TX P w K mg base cls Ω) : Cal P w K mg base CX0 1 "_law_take" ["_law_box_here", "_law_many"] (spM ⟨K, cls, P, w, Ω⟩ false [true, false] m_l_take) := by
  obtain ⟨f, fd, F⟩ := T.a_l_take
  refine cal_M (m := b_l_take) F (F.fn.binds (fun _ _ _ _ _ _ us hl => by
    obtain ⟨_, _, rfl⟩ := lenN_2 hl
    rfl)) sc_l_take rfl rfl ?_
  intro cdv A outer s H E hr
  refine with_ag ⟨rfl, rfl, rfl⟩ fun ag => ?_
  exact (qss_cons (qs_if (q_tcmp op_gt f_gt (q_ix ag hr.r.units (qv 0) (QE.t q_int)) (QE.t q_int)) (qss_cons (qs_set (i := 2) (q_op op_mod f_mod (q_ix ag hr.r.units (qv 0) (QE.t q_int)) (qv 1)) sc_l_take.nd)
    (qss_cons (qs_put hr.r.units (QE.fk (q_op op_fdivW f_div (q_ix ag hr.r.units (qv 0) (QE.t q_int)) (qv 1))) (qp_v 0) (QE.t q_int))
    (qss_one (qs_ret (qmv 2))))) qss_nil)
    (qss_cons (qs_put hr.r.units (QE.fk (q_op (o_add _ ag.K) f_add (q_ix ag hr.r.units (qv 0) (QE.t q_int)) (QE.t q_int))) (qp_v 0) (QE.t q_int))
    (qss_cons (qs_set (i := 3) (q_op op_mod f_mod (QE.t (q_op (o_mul _ ag.K) f_mul (QE.t (q_op (o_add _ ag.K) f_add (QE.t (q_op (o_add _ ag.K) f_add (q_ix ag hr.r.units (qv 0) (QE.t q_int)) (QE.t (q_op (o_mul _ ag.K) f_mul (QE.t (q_op (o_mul _ ag.K) f_mul (QE.t q_int) (q_ix ag hr.r.units (qv 0) (QE.t q_int)))) (q_ix ag hr.r.units (qv 0) (QE.t q_int)))))) (QE.t q_int))) (QE.t q_int))) (QE.t q_int)) sc_l_take.nd)
    (qss_cons (qs_set (i := 3) (q_op op_mod f_mod (QE.t (q_op (o_mul _ ag.K) f_mul (qv 3) (QE.t (q_op (o_add _ ag.K) f_add (QE.t (q_op op_mod f_mod (qv 3) (QE.t q_int))) (QE.t (q_op (o_mul _ ag.K) f_mul (QE.t q_int) (q_ix ag hr.r.units (qv 0) (QE.t q_int)))))))) (QE.t q_int)) sc_l_take.nd)
    (qss_one (qs_ret (q_op op_mod f_mod (QE.t (q_op (o_add _ ag.K) f_add (QE.t (q_op op_fdivW f_div (qv 3) (QE.t q_int))) (QE.t (q_op op_fdivW f_div (qv 3) (QE.t q_int))))) (qv 1))))))))
theorem ok_l_made (T : TX P w K mg base cls Ω) : Cal P w K mg base CX0 3 "_law_made" ["_law_value"] (spM ⟨K, cls, P, w, Ω⟩ false [false] m_l_made) := by
  obtain ⟨f, fd, F⟩ := T.a_l_made
  refine cal_M (m := b_l_made) F (F.fn.binds (fun _ _ _ _ _ _ us hl => by
    obtain ⟨_, rfl⟩ := lenN_1 hl
    rfl)) sc_l_made rfl rfl ?_
  intro cdv A outer s H E hr
  refine with_ag ⟨rfl, rfl, rfl⟩ fun ag => ?_
  exact (qss_cons (qs_set (i := 1) (q_mkX (c := "CommandError") (f := "line") T.e_CommandError hr ag (qvk 0)) sc_l_made.nd)
    (qss_cons (qs_set (i := 2) (q_lst (qa_cons (q_lst (qa_cons (qvk 1) (qa_cons (QT.k (q_xF (f := "line") ag T.ex T.x_line (qv 1))) qa_nil))) qa_nil)) sc_l_made.nd)
    (qss_cons (qs_for PassesOwn.never (qi_seq ag (q_tup (qa_cons (q_mkX (c := "InvalidCode") (f := "value") T.e_InvalidCode hr ag (qvk 0)) (qa_cons (q_mkX (c := "InvalidCountdowns") (f := "value") T.e_InvalidCountdowns hr ag (qvk 0)) (qa_cons (q_mkX (c := "InvalidEntries") (f := "value") T.e_InvalidEntries hr ag (qvk 0)) (qa_cons (q_mkX (c := "InvalidEntry") (f := "value") T.e_InvalidEntry hr ag (qvk 0)) qa_nil)))))) (qg_n 1 sc_l_made.nd) (qss_one (qs_expr (QE.t (q_lm ag PySem.F.slot_list_append PySem.F.type_list_append mt_append m_append (qp_v 2) (qa_cons (q_lst (qa_cons (qvk 1) (qa_cons (QT.k (q_xF (f := "value") ag T.ex T.x_value (qv 1))) qa_nil))) qa_nil))))))
    (qss_cons (qs_set (i := 1) (q_mkX (c := "InvalidInstructionSet") (f := "field") T.e_InvalidInstructionSet hr ag (qvk 0)) sc_l_made.nd)
    (qss_cons (qs_expr (QE.t (q_lm ag PySem.F.slot_list_append PySem.F.type_list_append mt_append m_append (qp_v 2) (qa_cons (q_lst (qa_cons (qvk 1) (qa_cons (QT.k (q_xF (f := "field") ag T.ex T.x_field (qv 1))) qa_nil))) qa_nil))))
    (qss_cons (qs_for PassesOwn.never (qi_seq ag (q_tup (qa_cons (q_mkX (c := "InvalidLengths") (f := "value") T.e_InvalidLengths hr ag (qvk 0)) (qa_cons (q_mkX (c := "InvalidNumber") (f := "value") T.e_InvalidNumber hr ag (qvk 0)) (qa_cons (q_mkX (c := "InvalidOffset") (f := "value") T.e_InvalidOffset hr ag (qvk 0)) (qa_cons (q_mkX (c := "InvalidProgram") (f := "value") T.e_InvalidProgram hr ag (qvk 0)) qa_nil)))))) (qg_n 1 sc_l_made.nd) (qss_one (qs_expr (QE.t (q_lm ag PySem.F.slot_list_append PySem.F.type_list_append mt_append m_append (qp_v 2) (qa_cons (q_lst (qa_cons (qvk 1) (qa_cons (QT.k (q_xF (f := "value") ag T.ex T.x_value (qv 1))) qa_nil))) qa_nil))))))
    (qss_cons (qs_par (i := 1) (j := 3) (qa_cons (q_mkX (c := "InvalidTimes") (f := "value") T.e_InvalidTimes hr ag (qvk 0)) (qa_cons (q_mkX (c := "ParseError") (f := "line") T.e_ParseError hr ag (qvk 0)) qa_nil)) sc_l_made.nd)
    (qss_cons (qs_expr (QE.t (q_lm ag PySem.F.slot_list_extend PySem.F.type_list_extend mt_extend m_extend (qp_v 2) (qa_cons (QE.fk (q_lst (qa_cons (q_lst (qa_cons (qvk 1) (qa_cons (QT.k (q_xF (f := "value") ag T.ex T.x_value (qv 1))) qa_nil))) (qa_cons (q_lst (qa_cons (q_mkN (c := "NothingToUndo") T.n_NothingToUndo) (qa_cons (qvk 0) qa_nil))) (qa_cons (q_lst (qa_cons (qvk 3) (qa_cons (QT.k (q_xF (f := "line") ag T.ex T.x_line (qv 3))) qa_nil))) qa_nil))))) qa_nil))))
    (qss_cons (qs_par (i := 1) (j := 3) (qa_cons (q_mkX (c := "TooLong") (f := "size") T.e_TooLong hr ag (qvk 0)) (qa_cons (q_mkX (c := "TooManyStates") (f := "count") T.e_TooManyStates hr ag (qvk 0)) qa_nil)) sc_l_made.nd)
    (qss_one (qs_ret (q_op (o_add _ ag.K) f_add (QE.t (qvk 2)) (QE.t (QE.fk (q_lst (qa_cons (q_lst (qa_cons (qvk 1) (qa_cons (QT.k (q_xF (f := "size") ag T.ex T.x_size (qv 1))) qa_nil))) (qa_cons (q_lst (qa_cons (qvk 3) (qa_cons (QT.k (q_xF (f := "count") ag T.ex T.x_count (qv 3))) qa_nil))) qa_nil)))))))))))))))))
theorem qb_law (T : TX P w K mg base cls Ω) {f : Addr} : QBody P w K mg base cls Ω 3 "law" s_law f n_law [false] b_law_k20 := by
  intro cdv A outer s H E hr
  refine with_ag ⟨rfl, rfl, rfl⟩ fun ag => ?_
  exact (qss_cons (qs_if (q_tcmpk (o_in _ hr.r.units ag.K) f_in q_bl (QE.t (q_call (ok_l_kinds T) hr (qm_e (QE.fk (q_mkN (c := "OverlapError") T.n_OverlapError)) qm_nil)))) (qss_one (qs_ret q_bl)) qss_nil)
    (qss_cons (qs_for PassesOwn.never (qi_rng1 T.blt.b_range (qta_cons (QE.t (q_op (o_add _ ag.K) f_add (QE.t q_int) (QE.t (q_callB (call_min2 rfl) f_min2 T.blt.b_min (by decide +kernel) (qta_cons (QE.t q_int) (qta_cons (QE.t (q_callB (o_len _ ag.K ag.P ag.w) f_len T.blt.b_len PySem.boot_len (qta_cons (qv 0) qta_nil))) qta_nil)))))) qta_nil)) (qg_n 1 sc_law.nd) (qss_cons (qs_set (i := 2) (q_call (ok_l_box T) hr (qm_e (qvk 0) (qm_e (qvk 1) qm_nil))) sc_law.nd)
    (qss_one (qs_for PassesOwn.never (qi_seq ag (q_lst (qa_cons q_non (qa_cons q_bl (qa_cons (q_call (ok_l_take T) hr (qm_io 2 (qm_e (QE.fk (q_op op_pow f_pow (QE.t q_int) (QE.t q_int))) qm_nil))) (qa_cons q_str (qa_cons q_str (qa_cons (q_tup qa_nil) (qa_cons (q_lst qa_nil) (qa_cons q_dnew (qa_cons (q_tup (qa_cons (q_tup (qa_cons q_int (qa_cons q_non qa_nil))) qa_nil)) (qa_cons (q_neg (QE.t q_int)) qa_nil)))))))))))) (qg_n 3 sc_law.nd) (qss_one (qs_for PassesOwn.never (qi_enum ag T.blt.b_enumerate (QA.ta (qa_cons (QE.fk (q_call (ok_l_made T) hr (qm_e (qvk 3) qm_nil))) qa_nil))) (qg_t ag (qgs_cons (qg_n 4 sc_law.nd) (qgs_cons (qg_n 5 sc_law.nd) qgs_nil))) (qss_cons (qs_asg (qvk 5) (qg_u ag (qgs_cons (qg_n 6 sc_law.nd) (qgs_cons (qg_n 7 sc_law.nd) qgs_nil))))
    (qss_cons (qs_if (QW.t (q_wor (q_tcmpk (o_neU _ hr.r.units ag.K) f_ne2 (q_call (ok_l_kinds T) hr (qm_e (qvk 6) qm_nil)) (QE.t (q_lc (own := [("_law_other", 8)]) sc_law.nd (qi_rng1 T.blt.b_range (qta_cons (QE.t q_int) qta_nil)) (blkOk_by (own := [("_law_other", 8)]) (N := n_law) (sc := defScope s_law) (by decide +kernel)) (fun _ _ _ _ _ => (qg_n 8 sc_law.nd)) (fun _ _ _ _ _ => qts_nil) (fun _ _ _ _ _ => (q_cmp (o_eqU _ hr.r.units ag.blk.K) f_eq2 (qv 4) (qv 8)))))) (q_wor1 (q_tcmp (o_neU _ hr.r.units ag.K) f_ne2 (QE.t (q_callB (o_reprV _ hr.g hr.r.units ag.K) f_reprV T.blt.b_repr (by decide +kernel) (qta_cons (qv 7) qta_nil))) (QE.t (q_callB (o_reprV _ hr.g hr.r.units ag.K) f_reprV T.blt.b_repr (by decide +kernel) (qta_cons (qv 3) qta_nil))))))) (qss_one (qs_ret q_bl)) qss_nil)
    (qss_one (qs_if (QW.t (q_wor (q_tnot (q_tval (QE.t (q_isX ag T.ex T.i_OverlapError T.blt.b_isinstance (qv 6))))) (q_wor1 (q_tnot (q_tval (QE.t (q_isX ag T.ex T.i_ValueError T.blt.b_isinstance (qv 6)))))))) (qss_one (qs_ret q_bl)) qss_nil))))))))))
    (qss_one (qs_ret q_bl))))
end
end Mi
set_option maxHeartbeats 4000000
set_option maxHeartbeats 4000000
set_option maxHeartbeats 4000000
namespace Mi
open PySem PySem.Spec PyProof.Rows L2 RZ Ov PpSet
/-- keeps simp from taking a law as a mere unfolding -/
theorem nrfl {α : Sort _} {a b : α} (h : a = b) : a = b := h
/-! ### mirrors are run by simp; what comes behind a step waits for it -/
/-- a mark that holds what comes next: simp leaves it as it is -/
abbrev Tg {α : Sort _} (_ : α) : Type := Unit
def R.bindL {α β : Type} (r : R α) (f : α → Env → R β) (_ : Tg f) : R β := r.bind f
def R.bind0L {α β : Type} (r : R α) (f : α → Env → R β) (_ : Tg f) : R β := r.bind0 f
def R.ite {α : Type} (b : Bool) (x y : Unit → R α) (_ : Tg x) (_ : Tg y) : R α := match b with | true => x () | false => y ()
theorem R.ite_t {α : Type} {x y : Unit → R α} : R.ite true x y () () = x () := nrfl rfl
theorem R.ite_f {α : Type} {x y : Unit → R α} : R.ite false x y () () = y () := nrfl rfl
def getR {α : Type} (o : Option (Option D)) (k : D → R α) (_ : Tg k) : R α := match o with | some (some d) => k d | _ => .no
theorem getR_s {α : Type} {d : D} {k : D → R α} : getR (some (some d)) k () = k d := nrfl rfl
def liftK {α : Type} (o : Option D) (k : D → R α) (_ : Tg k) : R α := match o with | some d => k d | none => .no
theorem liftK_s {α : Type} {d : D} {k : D → R α} : liftK (some d) k () = k d := nrfl rfl
section
variable {env : Env} {m n l : ME} {c x y : MB} {mS nS : MS} {ms : ML} {d : D} {i j : Nat}
theorem v_bo {α β : Type} {a : α} {e : Env} {f : α → Env → R β} : (R.ok a e).bind f = f a e := nrfl rfl
theorem v_b0 {α β : Type} {a : α} {e : Env} {f : α → Env → R β} : (R.ok a e).bind0 f = f a e := nrfl rfl
theorem b_bo {α β : Type} {a : α} {e : Env} {f : α → Env → R β} : (R.ok a e).bindL f () = f a e := nrfl rfl
theorem b_b0 {α β : Type} {a : α} {e : Env} {f : α → Env → R β} : (R.ok a e).bind0L f () = f a e := nrfl rfl
theorem v_c : eC d env = .ok d env := nrfl rfl
theorem v_v : eV i env = getR env[i]? (fun d => .ok d env) () := by unfold eV getR; rfl
theorem v_mv : eMv i env = getR env[i]? (fun d => .ok d (env.set i none)) () := by unfold eMv getR; rfl
theorem v_vk : eVk i env = getR env[i]? (fun d => R.ite (fzn d) (fun _ => .ok d env) (fun _ => .ok (fz d) (env.set i (some (fz d)))) () ()) () := by
  unfold eVk getR
  rcases env[i]? with _ | _ | d
  · rfl
  · rfl
  · simp only; cases h : fzn d <;> rfl
theorem v_k : eK m env = (m env).bindL (fun d e => R.ite (fzn d) (fun _ => .ok d e) (fun _ => .no) () ()) () := by
  simp only [R.bindL, R.bind0L]
  unfold eK
  congr 1
  funext d e
  cases h : fzn d <;> rfl
theorem v_fk : eFk m env = (m env).bindL (fun d e => R.ite (fzn d) (fun _ => .ok d e) (fun _ => .ok (fz d) e) () ()) () := by
  simp only [R.bindL, R.bind0L]
  unfold eFk
  congr 1
  funext d e
  cases h : fzn d <;> rfl
theorem v_nil : lNil env = .ok [] env := nrfl rfl
theorem v_cons : lCons m ms env = (m env).bindL (fun d e => (ms e).bindL (fun ds e => .ok (d :: ds) e) ()) () := nrfl rfl
theorem v_1 {f : D → Option D} : e1 f m env = (m env).bindL (fun d e => liftK (f d) (fun r => .ok r e) ()) () := nrfl rfl
theorem v_2 {f : D → D → Option D} : e2 f m n env = (m env).bindL (fun d e => (n e).bindL (fun d' e => liftK (f d d') (fun r => .ok r e) ()) ()) () := nrfl rfl
theorem v_L {f : List D → Option D} : eL f ms env = (ms env).bindL (fun ds e => liftK (f ds) (fun r => .ok r e) ()) () := nrfl rfl
def asB {α : Type} (d : D) (k : Bool → R α) (_ : Tg k) : R α := match d with | .bl b => k b | _ => .no
theorem asB_b {α : Type} {b : Bool} {k : Bool → R α} : asB (.bl b) k () = k b := nrfl rfl
theorem v_bB : bB m env = (m env).bindL (fun d e => asB d (fun b => .ok b e) ()) () := by simp only [R.bindL, R.bind0L]; unfold bB; congr 1
theorem v_bAnd : bAnd x y env = (x env).bindL (fun b e => R.ite b (fun _ => y e) (fun _ => .ok false e) () ()) () := by simp only [R.bindL, R.bind0L]; unfold bAnd; congr 1; funext b e; cases b <;> rfl
theorem v_bOr : bOr x y env = (x env).bindL (fun b e => R.ite b (fun _ => .ok true e) (fun _ => y e) () ()) () := by simp only [R.bindL, R.bind0L]; unfold bOr; congr 1; funext b e; cases b <;> rfl
theorem v_bNot : bNot x env = (x env).bindL (fun b e => .ok (!b) e) () := nrfl rfl
theorem v_bYes : bYes env = .ok true env := nrfl rfl
theorem v_if : eIf c m n env = (c env).bindL (fun b e => R.ite b (fun _ => m e) (fun _ => n e) () ()) () := by simp only [R.bindL, R.bind0L]; unfold eIf; congr 1; funext b e; cases b <;> rfl
theorem v_and : eAnd m n env = (m env).bindL (fun d e => asB d (fun b => R.ite b (fun _ => n e) (fun _ => .ok (.bl false) e) () ()) ()) () := by
  simp only [R.bindL, R.bind0L]
  unfold eAnd; congr 1; funext d e
  cases d with
  | bl b => cases b <;> rfl
  | _ => rfl
theorem v_or : eOr m n env = (m env).bindL (fun d e => asB d (fun b => R.ite b (fun _ => .ok (.bl true) e) (fun _ => n e) () ()) ()) () := by
  simp only [R.bindL, R.bind0L]
  unfold eOr; congr 1; funext d e
  cases d with
  | bl b => cases b <;> rfl
  | _ => rfl
theorem v_not : eNot m env = (m env).bindL (fun d e => asB d (fun b => .ok (.bl (!b)) e) ()) () := by
  simp only [R.bindL, R.bind0L]
  unfold eNot; congr 1
theorem v_tup : eTup ms env = (ms env).bindL (fun ds e => R.ite (fznL ds && decide (ds.length ≤ sizeLine)) (fun _ => .ok (.tup ds) e) (fun _ => .no) () ()) () := by
  simp only [R.bindL, R.bind0L]
  unfold eTup; congr 1; funext ds e; cases h : (fznL ds && decide (ds.length ≤ sizeLine)) <;> simp [R.ite]
theorem v_lst : eLst ms env = (ms env).bindL (fun ds e => R.ite (decide (ds.length ≤ sizeLine)) (fun _ => .ok (.lst true ds) e) (fun _ => .no) () ()) () := by
  simp only [R.bindL, R.bind0L]
  unfold eLst; congr 1; funext ds e
  by_cases h : ds.length ≤ sizeLine
  · rw [if_pos h, decide_eq_true h]; rfl
  · rw [if_neg h, decide_eq_false h]; rfl
def asI {α : Type} (d : D) (cs : List String) (f : String) (k : D → R α) (_ : Tg k) : R α := match d with | .ins _ c fs => R.ite (cs.contains c) (fun _ => liftK (fs.lookup f) k ()) (fun _ => .no) () () | _ => .no
theorem asI_i {α : Type} {o : Bool} {cn : String} {fs : List (String × D)} {cs : List String} {f : String} {k : D → R α} : asI (.ins o cn fs) cs f k () = R.ite (cs.contains cn) (fun _ => liftK (fs.lookup f) k ()) (fun _ => .no) () () := nrfl rfl
theorem v_fld {cs : List String} {f : String} : eFld cs f m env = (m env).bindL (fun d e => asI d cs f (fun r => .ok r e) ()) () := by
  simp only [R.bindL, R.bind0L]
  unfold eFld asI; congr 1; funext d e
  cases d with
  | ins o cn fs =>
    simp only
    cases h : cs.contains cn
    · rfl
    · simp only [if_true, R.ite]
      unfold lift liftK
      cases fs.lookup f <;> rfl
  | _ => rfl
def optI {α : Type} (d : D) (k : Int → R α) (_ : Tg k) : R α := match d with | .int i => k i | _ => .no
theorem optI_i {α : Type} {i : Int} {k : Int → R α} : optI (.int i) k () = k i := nrfl rfl
theorem v_oN : oN env = .ok none env := nrfl rfl
theorem v_oS : oS m env = (m env).bindL (fun d e => optI d (fun i => .ok (some i) e) ()) () := by simp only [R.bindL, R.bind0L]; unfold oS optI; rfl
theorem v_sl {lo hi : MO} : eSl m lo hi env = (m env).bindL (fun d e => (lo e).bindL (fun a e => (hi e).bindL (fun b e => liftK (fSl d a b) (fun r => .ok r e) ()) ()) ()) () := nrfl rfl
theorem v_rg1 : eRg1 m env = (m env).bindL (fun d e => optI d (fun i => .ok (0, i) e) ()) () := by simp only [R.bindL, R.bind0L]; unfold eRg1 optI; rfl
theorem v_rg2 : eRg2 m n env = (m env).bindL (fun d e => (n e).bindL (fun d2 e => optI d (fun i => optI d2 (fun j => .ok (i, j) e) ()) ()) ()) () := by
  simp only [R.bindL, R.bind0L]
  unfold eRg2 optI; congr 1; funext d e; congr 1; funext d2 e; cases d <;> cases d2 <;> rfl
theorem v_lrg {g : Env → R (Int × Int)} : eLRg g env = (g env).bindL (fun ij e => R.ite (rgOk ij.1 ij.2) (fun _ => .ok (.lst true (rgL ij.1 ij.2)) e) (fun _ => .no) () ()) () := by
  simp only [R.bindL, R.bind0L]
  unfold eLRg; congr 1; funext ij e; cases h : rgOk ij.1 ij.2 <;> rfl
theorem v_trg {g : Env → R (Int × Int)} : eTRg g env = (g env).bindL (fun ij e => R.ite (rgOk ij.1 ij.2) (fun _ => .ok (.tup (rgL ij.1 ij.2)) e) (fun _ => .no) () ()) () := by
  simp only [R.bindL, R.bind0L]
  unfold eTRg; congr 1; funext ij e; cases h : rgOk ij.1 ij.2 <;> rfl
/-! chains -/
def chainK {α : Type} (o : Option D) (k q : Unit → R α) (_ : Tg k) (_ : Tg q) : R α := match o with | some (.bl true) => k () | some (.bl false) => q () | _ => .no
theorem chainK_b {α : Type} {b : Bool} {k q : Unit → R α} : chainK (some (.bl b)) k q () () = R.ite b k q () () := by cases b <;> rfl
theorem v_chain {f f' : D → D → Option D} : eChain f f' m n l env = (m env).bindL (fun x e => (n e).bindL (fun y e => chainK (f x y) (fun _ => (l e).bindL (fun z e => liftK (f' y z) (fun r => .ok r e) ()) ()) (fun _ => .ok (.bl false) e) () ()) ()) () := nrfl rfl
/-! statements -/
def Fl.k (fl : Fl) (e : Env) (k : Unit → R Fl) (_ : Tg k) : R Fl := match fl with | .nx => k () | fl => .ok fl e
theorem Fl.k_nx {e : Env} {k : Unit → R Fl} : Fl.k .nx e k () = k () := nrfl rfl
theorem Fl.k_rt {e : Env} {k : Unit → R Fl} : Fl.k (.rt d) e k () = .ok (.rt d) e := nrfl rfl
theorem Fl.k_bk {e : Env} {k : Unit → R Fl} : Fl.k .bk e k () = .ok .bk e := nrfl rfl
theorem Fl.k_ct {e : Env} {k : Unit → R Fl} : Fl.k .ct e k () = .ok .ct e := nrfl rfl
theorem v_seq : sSeq mS nS env = (mS env).bindL (fun fl e => Fl.k fl e (fun _ => nS e) ()) () := nrfl rfl
theorem v_pass : sPass env = .ok .nx env := nrfl rfl
theorem v_bk : sBk env = .ok .bk env := nrfl rfl
theorem v_ct : sCt env = .ok .ct env := nrfl rfl
theorem v_ret : sRet m env = (m env).bindL (fun d e => .ok (.rt d) e) () := nrfl rfl
theorem v_retN : sRetN env = .ok (.rt .non) env := nrfl rfl
theorem v_expr : sExpr m env = (m env).bindL (fun _ e => .ok .nx e) () := nrfl rfl
theorem v_sif : sIf c mS nS env = (c env).bindL (fun b e => R.ite b (fun _ => mS e) (fun _ => nS e) () ()) () := by simp only [R.bindL, R.bind0L]; unfold sIf; congr 1; funext b e; cases b <;> rfl
def optE {α : Type} (o : Option Env) (k : Env → R α) (_ : Tg k) : R α := match o with | some e => k e | none => .no
theorem optE_s {α : Type} {e : Env} {k : Env → R α} : optE (some e) k () = k e := nrfl rfl
theorem v_asg {g : MG} : sAsg g m env = (m env).bindL (fun d e => optE (g d e) (fun e' => .ok .nx e') ()) () := by simp only [R.bindL, R.bind0L]; unfold sAsg optE; congr 1
theorem v_gN : gN i d env = some (env.set i (some d)) := nrfl rfl
theorem v_gT {gs : MGs} {ds : List D} : gT gs (.tup ds) env = gs ds env := nrfl rfl
theorem v_gsN : gsNil [] env = some env := nrfl rfl
theorem v_gsC {g : MG} {gs : MGs} {ds : List D} : gsCons g gs (d :: ds) env = (g d env).bind (gs ds) := nrfl rfl
def k2 {α : Type} (ds : List D) (k : D → D → R α) (_ : Tg k) : R α := match ds with | [d1, d2] => k d1 d2 | _ => .no
theorem k2_s {α : Type} {d1 d2 : D} {k : D → D → R α} : k2 [d1, d2] k () = k d1 d2 := nrfl rfl
def k3 {α : Type} (ds : List D) (k : D → D → D → R α) (_ : Tg k) : R α := match ds with | [d1, d2, d3] => k d1 d2 d3 | _ => .no
theorem k3_s {α : Type} {d1 d2 d3 : D} {k : D → D → D → R α} : k3 [d1, d2, d3] k () = k d1 d2 d3 := nrfl rfl
theorem v_par : sPar i j ms env = (ms env).bindL (fun ds e => k2 ds (fun d1 d2 => .ok .nx ((e.set i (some d1)).set j (some d2))) ()) () := by simp only [R.bindL, R.bind0L]; unfold sPar k2; rfl
theorem v_par3 {k : Nat} : sPar3 i j k ms env = (ms env).bindL (fun ds e => k3 ds (fun d1 d2 d3 => .ok .nx (((e.set i (some d1)).set j (some d2)).set k (some d3))) ()) () := by simp only [R.bindL, R.bind0L]; unfold sPar3 k3; rfl
theorem v_aug {f : D → D → Option D} : sAug i f m env = getR env[i]? (fun d => (m env).bindL (fun d' e => liftK (f d d') (fun r => .ok .nx (e.set i (some r))) ()) ()) () := by
  simp only [R.bindL, R.bind0L]
  unfold sAug getR
  rcases env[i]? with _ | _ | d
  · rfl
  · rfl
  · rfl
theorem v_put {p : Plc} : sPut p m n env = (m env).bindL (fun d e => liftK (getP e p) (fun _ => (n e).bindL (fun i e => liftK (getP e p) (fun c => liftK (fSet c i d) (fun c' => .ok .nx (setP e p c')) ()) ()) ()) ()) () := by
  simp only [R.bindL, R.bind0L]
  unfold sPut liftK; congr 1
def insK {α : Type} (o : Option (Option D)) (k : String → List (String × D) → R α) (_ : Tg k) : R α := match o with | some (some (.ins true c fs)) => k c fs | _ => .no
theorem insK_s {α : Type} {c : String} {fs : List (String × D)} {k : String → List (String × D) → R α} : insK (some (some (.ins true c fs))) k () = k c fs := nrfl rfl
theorem v_sfld {cs : List String} {f : String} : sFldD i cs f m env = (m env).bindL (fun d e => insK e[i]? (fun c fs => R.ite (cs.contains c && decide (fs.length < 1000)) (fun _ => .ok .nx (e.set i (some (.ins true c (putD f d fs))))) (fun _ => .no) () ()) ()) () := by
  simp only [R.bindL, R.bind0L]
  unfold sFldD insK; congr 1; funext d e
  rcases e[i]? with _ | _ | d
  · rfl
  · rfl
  · cases d with
    | ins o c fs =>
      cases o
      · rfl
      · simp only; cases hb : (cs.contains c && decide (fs.length < 1000)) <;> rfl
    | _ => rfl
theorem v_for {it : MI} {g : MG} : sFor it g mS env = (it env).bindL (fun ds e => forL g mS ds e) () := nrfl rfl
def optL {α : Type} (o : Option (List D)) (k : List D → R α) (_ : Tg k) : R α := match o with | some e => k e | none => .no
theorem optL_s {α : Type} {e : List D} {k : List D → R α} : optL (some e) k () = k e := nrfl rfl
theorem v_iSeq : iSeq m env = (m env).bindL (fun d e => optL (seqD (fz d)) (fun ds => .ok ds e) ()) () := by simp only [R.bindL, R.bind0L]; unfold iSeq optL; congr 1
theorem v_iOf {f : List D → Option (List D)} : iOf f ms env = (ms env).bindL (fun ds e => optL (f ds) (fun r => .ok r e) ()) () := by simp only [R.bindL, R.bind0L]; unfold iOf optL; congr 1
def strK {α : Type} (d : D) (k : Str → R α) (_ : Tg k) : R α := match d with | .str x => k x | _ => .no
theorem strK_s {α : Type} {x : Str} {k : Str → R α} : strK (.str x) k () = k x := nrfl rfl
theorem v_iStr : iStrD m env = (m env).bindL (fun d e => strK d (fun x => .ok (x.cps.toList.map fun c => .str ⟨#[c]⟩) e) ()) () := by simp only [R.bindL, R.bind0L]; unfold iStrD strK; rfl
theorem v_lc {it : MI} {g : MG} {ws : List Nat} : eLc it g c m ws env = (it env).bindL (fun ds e => (lcF g c m ws ds [] (wipeE e ws)).bind0L (fun r e => .ok (.lst true r) e) ()) () := nrfl rfl
def mlK {α : Type} (o : Option D) (k : List D → R α) (_ : Tg k) : R α := match o with | some (.lst true ds) => k ds | _ => .no
theorem mlK_s {α : Type} {ds : List D} {k : List D → R α} : mlK (some (.lst true ds)) k () = k ds := nrfl rfl
def optF {α : Type} (o : Option (D × List D)) (k : D → List D → R α) (_ : Tg k) : R α := match o with | some p => k p.1 p.2 | none => .no
theorem optF_s {α : Type} {d : D} {ds : List D} {k : D → List D → R α} : optF (some (d, ds)) k () = k d ds := nrfl rfl
theorem v_mList {p : Plc} {f : List D → List D → Option (D × List D)} : mList p ms f env = mlK (getP env p) (fun _ => (ms env).bindL (fun as e => mlK (getP e p) (fun ds => optF (f ds as) (fun d ds' => .ok d (setP e p (.lst true ds'))) ()) ()) ()) () := by
  simp only [R.bindL, R.bind0L]
  unfold mList mlK optF
  rcases getP env p with _ | d
  · rfl
  · cases d with
    | lst o ds =>
      cases o
      · rfl
      · simp only
        congr 1; funext as e
        rcases getP e p with _ | d
        · rfl
        · cases d with
          | lst o ds =>
            cases o
            · rfl
            · simp only; rcases f ds as with _ | ⟨x, y⟩ <;> rfl
          | _ => rfl
    | _ => rfl
def joinO (o : Option (Option D)) : Option D := match o with | some (some d) => some d | _ => none
theorem joinO_s {d : D} : joinO (some (some d)) = some d := nrfl rfl
theorem v_gp {i : Nat} : getP env (i, none) = joinO env[i]? := nrfl rfl
theorem v_gq {i : Nat} : setP env (i, none) d = env.set i (some d) := nrfl rfl
def fldO (o : Option (Option D)) (cs : List String) (f : String) : Option D := match o with | some (some (.ins true c fs)) => if cs.contains c then fs.lookup f else none | _ => none
theorem fldO_s {c : String} {fs : List (String × D)} {cs : List String} {f : String} : fldO (some (some (.ins true c fs))) cs f = if cs.contains c then fs.lookup f else none := nrfl rfl
theorem v_gf {i : Nat} {cs : List String} {f : String} : getP env (i, some (cs, f)) = fldO env[i]? cs f := nrfl rfl
def setO (o : Option (Option D)) (env : Env) (i : Nat) (f : String) (e : D) : Env := match o with | some (some (.ins o c fs)) => env.set i (some (.ins o c (putD f e fs))) | _ => env
theorem setO_s {o : Bool} {c : String} {fs : List (String × D)} {i : Nat} {f : String} {e : D} : setO (some (some (.ins o c fs))) env i f e = env.set i (some (.ins o c (putD f e fs))) := nrfl rfl
theorem v_gs {i : Nat} {cs : List String} {f : String} {e : D} : setP env (i, some (cs, f)) e = setO env[i]? env i f e := nrfl rfl
/-! calls -/
def Rf.back (r : Rf) (as : List Arg) (e2 : Env) : R D := match r with
  | .ok d ios => optE (backA as ios e2) (fun e3 => .ok d e3) ()
  | .ex x ios => (match backA as ios e2 with | some e3 => .ex x e3 | none => .no)
  | .no => .no
theorem Rf.back_ok {d : D} {ios : List D} {as : List Arg} {e2 : Env} : Rf.back (.ok d ios) as e2 = optE (backA as ios e2) (fun e3 => .ok d e3) () := nrfl rfl
def optP {α : Type} (o : Option (List D × Env)) (k : List D → Env → R α) (_ : Tg k) : R α := match o with | some p => k p.1 p.2 | none => .no
theorem optP_s {α : Type} {p : List D × Env} {k : List D → Env → R α} : optP (some p) k () = k p.1 p.2 := nrfl rfl
theorem v_callF {f : Fun} {as : List Arg} {mss : List (Option D)} : callF f as mss env = optP (fillA as mss env) (fun ds e2 => (f ds).back as e2) () := by
  unfold callF optP Rf.back
  cases fillA as mss env with
  | none => rfl
  | some p =>
    obtain ⟨ds, e2⟩ := p
    simp only
    cases f ds with
    | ok d ios => simp only; unfold optE; cases backA as ios e2 <;> rfl
    | ex x ios => rfl
    | no => rfl
theorem v_call {f : Fun} {as : List Arg} : eCall f as env = (eArgs as env).bindL (fun mss e => callF f as mss e) () := nrfl rfl
theorem v_aN : eArgs [] env = .ok [] env := nrfl rfl
theorem v_aE {as : List Arg} : eArgs (.e m :: as) env = (m env).bindL (fun d e => (eArgs as e).bindL (fun r e => .ok (some d :: r) e) ()) () := nrfl rfl
theorem v_aI {as : List Arg} : eArgs (.io j :: as) env = getR env[j]? (fun _ => (eArgs as env).bindL (fun r e => .ok (none :: r) e) ()) () := by
  simp only [R.bindL, R.bind0L]
  rw [eArgs]; unfold getR; rfl
theorem v_fN {mss : List (Option D)} : fillA [] mss env = some ([], env) := by cases mss <;> rfl
theorem v_fE {as : List Arg} {mss : List (Option D)} : fillA (.e m :: as) (some d :: mss) env = (fillA as mss env).map fun r => (d :: r.1, r.2) := by rw [fillA]
def optD {α : Type} (o : Option (Option D)) (k : D → Option α) (_ : Tg k) : Option α := match o with | some (some d) => k d | _ => none
theorem optD_s {α : Type} {d : D} {k : D → Option α} : optD (some (some d)) k () = k d := nrfl rfl
theorem v_fI {as : List Arg} {mss : List (Option D)} {o : Option D} : fillA (.io j :: as) (o :: mss) env = optD env[j]? (fun d => (fillA as mss (env.set j none)).map fun r => (d :: r.1, r.2)) () := by
  rw [fillA]
  unfold optD
  rcases env[j]? with _ | _ | d <;> rfl
theorem v_kN : backA [] [] env = some env := by rw [backA]
theorem v_kE {as : List Arg} {ios : List D} : backA (.e m :: as) ios env = backA as ios env := by rw [backA]
theorem v_kI {as : List Arg} {ios : List D} : backA (.io j :: as) (d :: ios) env = backA as ios (env.set j (some d)) := by rw [backA]
theorem v_methE {cn mn : String} {f : Fun} {as : List Arg} : eMeth cn mn f (.e m) as env = (m env).bindL (fun d e => R.ite (recv cn mn d) (fun _ => (eArgs as e).bindL (fun ms e => callF f (.e m :: as) (some d :: ms) e) ()) (fun _ => .no) () ()) () := by
  simp only [R.bindL, R.bind0L]
  show ((m env).bind fun d e => if recv cn mn d then (eArgs as e).bind fun ms e => callF f (.e m :: as) (some d :: ms) e else .no) = _
  congr 1; funext d e; cases h : recv cn mn d <;> rfl
theorem v_methI {cn mn : String} {f : Fun} {as : List Arg} : eMeth cn mn f (.io j) as env = getR env[j]? (fun d => R.ite (recv cn mn d) (fun _ => (eArgs as env).bindL (fun ms e => callF f (.io j :: as) (none :: ms) e) ()) (fun _ => .no) () ()) () := by
  simp only [R.bindL, R.bind0L]
  unfold eMeth getR
  simp only
  rcases env[j]? with _ | _ | d
  · rfl
  · rfl
  · simp only; cases h : recv cn mn d <;> rfl
def Rf.newB (r : Rf) (as : List Arg) (e2 : Env) : R D := match r with
    | .ok .non (self :: ios) => optE (backA as ios e2) (fun e3 => .ok self e3) ()
    | .ex x (_ :: ios) => (match backA as ios e2 with | some e3 => .ex x e3 | none => .no)
    | _ => .no
theorem Rf.newB_ok {s : D} {ios : List D} {as : List Arg} {e2 : Env} : Rf.newB (.ok .non (s :: ios)) as e2 = optE (backA as ios e2) (fun e3 => .ok s e3) () := nrfl rfl
theorem v_new {cn : String} {f : Fun} {as : List Arg} : eNew cn f as env = (eArgs as env).bindL (fun mss e => optP (fillA as mss e) (fun ds e2 => (f (.ins true cn [] :: ds)).newB as e2) ()) () := by
  simp only [R.bindL, R.bind0L]
  unfold eNew
  congr 1
  funext mss e
  unfold callN optP Rf.newB
  cases fillA as mss e with
  | none => rfl
  | some p =>
    obtain ⟨ds, e2⟩ := p
    simp only
    cases f (.ins true cn [] :: ds) with
    | ok d ios =>
      cases d <;> cases ios <;> first | rfl | (simp only; unfold optE; cases backA as _ e2 <;> rfl)
    | ex x ios => cases ios <;> rfl
    | no => rfl
/-- what a def gives -/
def fin (io : List Bool) (r : R Fl) : Rf := match r with
  | .ok (.rt d) env => (match allS (pick io env) with | some ios => .ok d ios | none => .no)
  | .ok .nx env => (match allS (pick io env) with | some ios => .ok .non ios | none => .no)
  | .ok _ _ => .no
  | .ex x env => (match allS (pick io env) with | some ios => .ex x ios | none => .no)
  | .no => .no
theorem v_fn {n : Nat} {io : List Bool} {ds : List D} : fnOf n io mS ds = fin io (mS (ds.map some ++ List.replicate n none)) := nrfl rfl
def optR (o : Option (List D)) (k : List D → Rf) (_ : Tg k) : Rf := match o with | some e => k e | none => .no
theorem optR_s {e : List D} {k : List D → Rf} : optR (some e) k () = k e := nrfl rfl
theorem fin_rt {io : List Bool} : fin io (.ok (.rt d) env) = optR (allS (pick io env)) (fun ios => .ok d ios) () := by unfold fin optR; rfl
theorem fin_nx {io : List Bool} : fin io (.ok .nx env) = optR (allS (pick io env)) (fun ios => .ok .non ios) () := by unfold fin optR; rfl
theorem al_n : allS [] = some [] := nrfl rfl
theorem al_c {r : Env} : allS (some d :: r) = (allS r).map (d :: ·) := nrfl rfl
theorem pi_t {α : Type} {ms : List Bool} {v : α} {vs : List α} : pick (true :: ms) (v :: vs) = v :: pick ms vs := nrfl rfl
theorem pi_f {α : Type} {ms : List Bool} {v : α} {vs : List α} : pick (false :: ms) (v :: vs) = pick ms vs := nrfl rfl
theorem pi_n {α : Type} {vs : List α} : pick [] vs = [] := by cases vs <;> rfl
theorem wi_n : wipeE env [] = env := nrfl rfl
theorem wi_c {v : Nat} {vs : List Nat} : wipeE env (v :: vs) = (wipeE env vs).set v none := nrfl rfl
end
theorem at0 {α : Type} {a : α} {l : List α} : atI (a :: l) 0 = some a := atI_nat (j := 0) rfl
theorem at1 {α : Type} {a b : α} {l : List α} : atI (a :: b :: l) 1 = some b := atI_nat (j := 1) rfl
theorem at2 {α : Type} {a b c : α} {l : List α} : atI (a :: b :: c :: l) 2 = some c := atI_nat (j := 2) rfl
theorem at3 {α : Type} {a b c d : α} {l : List α} : atI (a :: b :: c :: d :: l) 3 = some d := atI_nat (j := 3) rfl
theorem ix0 {n : Nat} : ixN (n + 1) 0 = some 0 := by unfold ixN; rw [if_pos (by omega), if_pos (by omega)]; rfl
theorem ix1 {n : Nat} : ixN (n + 2) 1 = some 1 := by unfold ixN; rw [if_pos (by omega), if_pos (by omega)]; rfl
theorem ix2 {n : Nat} : ixN (n + 3) 2 = some 2 := by unfold ixN; rw [if_pos (by omega), if_pos (by omega)]; rfl
theorem set0 {a d : D} {l : List D} : fSet (.lst true (a :: l)) (.int 0) d = some (.lst true (d :: l)) := by
  rw [fSet, List.length_cons, ix0]; rfl
theorem set1 {a b d : D} {l : List D} : fSet (.lst true (a :: b :: l)) (.int 1) d = some (.lst true (a :: d :: l)) := by
  rw [fSet, List.length_cons, List.length_cons, ix1]; rfl
theorem set2 {a b c d : D} {l : List D} : fSet (.lst true (a :: b :: c :: l)) (.int 2) d = some (.lst true (a :: b :: d :: l)) := by
  rw [fSet, List.length_cons, List.length_cons, List.length_cons, ix2]; rfl
theorem pow_60 : fPow (.int 10) (.int 60) = some (.int (10 ^ 60)) := by
  unfold fPow fI2
  simp only
  rw [if_pos (by decide)]; rfl
theorem pow_18 : fPow (.int 10) (.int 18) = some (.int (10 ^ 18)) := by
  unfold fPow fI2
  simp only
  rw [if_pos (by decide)]; rfl
theorem ix_t {ds : List D} {i : Int} : fIx (.tup ds) (.int i) = atI ds i := nrfl rfl
theorem ix_l {ds : List D} {i : Int} {o : Bool} : fIx (.lst o ds) (.int i) = atI ds i := nrfl rfl
theorem ix_s {ds : List D} {i : Int} : fIx (.scr ds) (.int i) = atI ds i := nrfl rfl
theorem mul_i {a b : Int} : fMul (.int a) (.int b) = if mulOk a b then some (.int (a * b)) else none := nrfl rfl
theorem len_t {ds : List D} : fLen [.tup ds] = some (.int ds.length) := nrfl rfl
theorem len_l {ds : List D} {o : Bool} : fLen [.lst o ds] = some (.int ds.length) := nrfl rfl
theorem len_s {ds : List D} : fLen [.scr ds] = some (.int ds.length) := nrfl rfl
theorem sz0 : ([] : List D).length ≤ sizeLine := by
  simp only [List.length_cons, List.length_nil]; decide
theorem sz1 {a : D} : ([a] : List D).length ≤ sizeLine := by
  simp only [List.length_cons, List.length_nil]; decide
theorem sz2 {a b : D} : ([a, b] : List D).length ≤ sizeLine := by
  simp only [List.length_cons, List.length_nil]; decide
theorem sz3 {a b c : D} : ([a, b, c] : List D).length ≤ sizeLine := by
  simp only [List.length_cons, List.length_nil]; decide
theorem sz4 {a b c d : D} : ([a, b, c, d] : List D).length ≤ sizeLine := by
  simp only [List.length_cons, List.length_nil]; decide
theorem sz5 {a b c d e : D} : ([a, b, c, d, e] : List D).length ≤ sizeLine := by
  simp only [List.length_cons, List.length_nil]; decide
theorem sz6 {a b c d e f : D} : ([a, b, c, d, e, f] : List D).length ≤ sizeLine := by
  simp only [List.length_cons, List.length_nil]; decide
theorem sz7 {a b c d e f g : D} : ([a, b, c, d, e, f, g] : List D).length ≤ sizeLine := by
  simp only [List.length_cons, List.length_nil]; decide
theorem sz8 {a b c d e f g h : D} : ([a, b, c, d, e, f, g, h] : List D).length ≤ sizeLine := by
  simp only [List.length_cons, List.length_nil]; decide
theorem isa_isInt_non  : fIsa Kd.isInt .non = some (.bl false) := nrfl rfl
theorem isa_isInt_bl {b : Bool} : fIsa Kd.isInt (.bl b) = some (.bl true) := nrfl rfl
theorem isa_isInt_int {i : Int} : fIsa Kd.isInt (.int i) = some (.bl true) := nrfl rfl
theorem isa_isInt_str {x : Str} : fIsa Kd.isInt (.str x) = some (.bl false) := nrfl rfl
theorem isa_isInt_tup {ds : List D} : fIsa Kd.isInt (.tup ds) = some (.bl false) := nrfl rfl
theorem isa_isInt_lst {o : Bool} {ds : List D} : fIsa Kd.isInt (.lst o ds) = some (.bl false) := nrfl rfl
theorem isa_isInt_scr {ds : List D} : fIsa Kd.isInt (.scr ds) = some (.bl false) := nrfl rfl
theorem isa_isInt_dct {o : Bool} {ds : List (D × D)} : fIsa Kd.isInt (.dct o ds) = some (.bl false) := nrfl rfl
theorem isa_isBool_non  : fIsa Kd.isBool .non = some (.bl false) := nrfl rfl
theorem isa_isBool_bl {b : Bool} : fIsa Kd.isBool (.bl b) = some (.bl true) := nrfl rfl
theorem isa_isBool_int {i : Int} : fIsa Kd.isBool (.int i) = some (.bl false) := nrfl rfl
theorem isa_isBool_str {x : Str} : fIsa Kd.isBool (.str x) = some (.bl false) := nrfl rfl
theorem isa_isBool_tup {ds : List D} : fIsa Kd.isBool (.tup ds) = some (.bl false) := nrfl rfl
theorem isa_isBool_lst {o : Bool} {ds : List D} : fIsa Kd.isBool (.lst o ds) = some (.bl false) := nrfl rfl
theorem isa_isBool_scr {ds : List D} : fIsa Kd.isBool (.scr ds) = some (.bl false) := nrfl rfl
theorem isa_isBool_dct {o : Bool} {ds : List (D × D)} : fIsa Kd.isBool (.dct o ds) = some (.bl false) := nrfl rfl
theorem isa_isStr_non  : fIsa Kd.isStr .non = some (.bl false) := nrfl rfl
theorem isa_isStr_bl {b : Bool} : fIsa Kd.isStr (.bl b) = some (.bl false) := nrfl rfl
theorem isa_isStr_int {i : Int} : fIsa Kd.isStr (.int i) = some (.bl false) := nrfl rfl
theorem isa_isStr_str {x : Str} : fIsa Kd.isStr (.str x) = some (.bl true) := nrfl rfl
theorem isa_isStr_tup {ds : List D} : fIsa Kd.isStr (.tup ds) = some (.bl false) := nrfl rfl
theorem isa_isStr_lst {o : Bool} {ds : List D} : fIsa Kd.isStr (.lst o ds) = some (.bl false) := nrfl rfl
theorem isa_isStr_scr {ds : List D} : fIsa Kd.isStr (.scr ds) = some (.bl false) := nrfl rfl
theorem isa_isStr_dct {o : Bool} {ds : List (D × D)} : fIsa Kd.isStr (.dct o ds) = some (.bl false) := nrfl rfl
theorem isa_isTuple_non  : fIsa Kd.isTuple .non = some (.bl false) := nrfl rfl
theorem isa_isTuple_bl {b : Bool} : fIsa Kd.isTuple (.bl b) = some (.bl false) := nrfl rfl
theorem isa_isTuple_int {i : Int} : fIsa Kd.isTuple (.int i) = some (.bl false) := nrfl rfl
theorem isa_isTuple_str {x : Str} : fIsa Kd.isTuple (.str x) = some (.bl false) := nrfl rfl
theorem isa_isTuple_tup {ds : List D} : fIsa Kd.isTuple (.tup ds) = some (.bl true) := nrfl rfl
theorem isa_isTuple_lst {o : Bool} {ds : List D} : fIsa Kd.isTuple (.lst o ds) = some (.bl false) := nrfl rfl
theorem isa_isTuple_scr {ds : List D} : fIsa Kd.isTuple (.scr ds) = some (.bl false) := nrfl rfl
theorem isa_isTuple_dct {o : Bool} {ds : List (D × D)} : fIsa Kd.isTuple (.dct o ds) = some (.bl false) := nrfl rfl
theorem isa_isList_non  : fIsa Kd.isList .non = some (.bl false) := nrfl rfl
theorem isa_isList_bl {b : Bool} : fIsa Kd.isList (.bl b) = some (.bl false) := nrfl rfl
theorem isa_isList_int {i : Int} : fIsa Kd.isList (.int i) = some (.bl false) := nrfl rfl
theorem isa_isList_str {x : Str} : fIsa Kd.isList (.str x) = some (.bl false) := nrfl rfl
theorem isa_isList_tup {ds : List D} : fIsa Kd.isList (.tup ds) = some (.bl false) := nrfl rfl
theorem isa_isList_lst {o : Bool} {ds : List D} : fIsa Kd.isList (.lst o ds) = some (.bl true) := nrfl rfl
theorem isa_isList_scr {ds : List D} : fIsa Kd.isList (.scr ds) = some (.bl true) := nrfl rfl
theorem isa_isList_dct {o : Bool} {ds : List (D × D)} : fIsa Kd.isList (.dct o ds) = some (.bl false) := nrfl rfl
theorem isa_isDict_non  : fIsa Kd.isDict .non = some (.bl false) := nrfl rfl
theorem isa_isDict_bl {b : Bool} : fIsa Kd.isDict (.bl b) = some (.bl false) := nrfl rfl
theorem isa_isDict_int {i : Int} : fIsa Kd.isDict (.int i) = some (.bl false) := nrfl rfl
theorem isa_isDict_str {x : Str} : fIsa Kd.isDict (.str x) = some (.bl false) := nrfl rfl
theorem isa_isDict_tup {ds : List D} : fIsa Kd.isDict (.tup ds) = some (.bl false) := nrfl rfl
theorem isa_isDict_lst {o : Bool} {ds : List D} : fIsa Kd.isDict (.lst o ds) = some (.bl false) := nrfl rfl
theorem isa_isDict_scr {ds : List D} : fIsa Kd.isDict (.scr ds) = some (.bl false) := nrfl rfl
theorem isa_isDict_dct {o : Bool} {ds : List (D × D)} : fIsa Kd.isDict (.dct o ds) = some (.bl true) := nrfl rfl
theorem eq_i {a b : Int} : fEq2 (.int a) (.int b) = some (.bl (decide (a = b))) := nrfl rfl
theorem ne_i {a b : Int} : fNe2 (.int a) (.int b) = some (.bl (!decide (a = b))) := nrfl rfl
theorem eq_s {a b : Str} : fEq2 (.str a) (.str b) = some (.bl (decide (a = b))) := nrfl rfl
theorem ne_s {a b : Str} : fNe2 (.str a) (.str b) = some (.bl (!decide (a = b))) := nrfl rfl
theorem sl_l {o : Bool} {ds : List D} {a b : Option Int} : fSl (.lst o ds) a b = if fznL ds then some (.lst true (cutA ds a b)) else none := nrfl rfl
theorem sl_t {ds : List D} {a b : Option Int} : fSl (.tup ds) a b = some (.tup (cutA ds a b)) := nrfl rfl
theorem fz_l {o : Bool} {ds : List D} : fz (.lst o ds) = .lst false (fzL ds) := by rw [fz]
theorem fz_t {ds : List D} : fz (.tup ds) = .tup (fzL ds) := by rw [fz]
theorem fz_d {o : Bool} {ds : List (D × D)} : fz (.dct o ds) = .dct false (fzK ds) := by rw [fz]
theorem fz_i {o : Bool} {c : String} {ds : List (String × D)} : fz (.ins o c ds) = .ins false c (fzF ds) := by rw [fz]
theorem seq_t {ds : List D} : seqD (.tup ds) = some ds := nrfl rfl
theorem seq_l {o : Bool} {ds : List D} : seqD (.lst o ds) = some ds := nrfl rfl
theorem zip_l {a b : List D} : zipD [.lst false a, .lst false b] = some (List.zipWith (fun x y => .tup [x, y]) a b) := nrfl rfl
theorem zip_t {a b : List D} : zipD [.tup a, .tup b] = some (List.zipWith (fun x y => .tup [x, y]) a b) := nrfl rfl
theorem enum_l {a : List D} : enumD [.lst false a] = some ((List.range a.length).zipWith (fun (i : Nat) x => .tup [.int (i : Int), x]) a) := nrfl rfl
theorem rng1_i {j : Int} (h0 : -(2 ^ 62) ≤ j) (h1 : j < 2 ^ 62) : rng1 [.int j] = some ((List.range j.toNat).map fun k : Nat => .int (k : Int)) := if_pos ⟨h0, h1⟩
theorem rng1_n {j : Nat} (h1 : j < 2 ^ 62) : rng1 [.int (j : Int)] = some ((List.range j).map fun k : Nat => .int (k : Int)) := by
  rw [rng1_i (by omega) (by omega)]; rfl
theorem tuple_l {o : Bool} {ds : List D} : fTuple [.lst o ds] = if fznL ds then some (.tup ds) else none := nrfl rfl
theorem tuple_t {ds : List D} : fTuple [.tup ds] = some (.tup ds) := nrfl rfl
theorem list_l {o : Bool} {ds : List D} : fList [.lst o ds] = if fznL ds then some (.lst true ds) else none := nrfl rfl
theorem list_t {ds : List D} : fList [.tup ds] = if fznL ds then some (.lst true ds) else none := nrfl rfl
theorem pk_all : ∀ {io : List Bool} {e : Env}, (io.all fun b => !b) = true → allS (pick io e) = some []
  | [], e, _ => by cases e <;> rfl
  | true :: io, e, h => by simp at h
  | false :: io, [], h => rfl
  | false :: io, a :: e, h => by
    rw [pick]
    exact pk_all (by simpa using h)
theorem pk1 {e : Env} : allS (pick [false] e) = some [] := pk_all rfl
theorem pk2 {e : Env} : allS (pick [false, false] e) = some [] := pk_all rfl
theorem pk3 {e : Env} : allS (pick [false, false, false] e) = some [] := pk_all rfl
theorem pk4 {e : Env} : allS (pick [false, false, false, false] e) = some [] := pk_all rfl
theorem fzL_n : fzL [] = [] := by rw [fzL]
theorem fzL_c {d : D} {ds : List D} : fzL (d :: ds) = fz d :: fzL ds := by rw [fzL]
theorem fz_int {i : Int} : fz (.int i) = .int i := by rw [fz]
theorem fz_bl {i : Bool} : fz (.bl i) = .bl i := by rw [fz]
theorem fz_str {i : Str} : fz (.str i) = .str i := by rw [fz]
theorem fz_non : fz .non = .non := by rw [fz]
theorem seq_nx {s r : MS} {env e : Env} {x : R Fl} (h : s env = .ok .nx e) (h2 : r e = x) : sSeq s r env = x := by
  rw [v_seq, h, b_bo, Fl.k_nx, h2]
theorem fin_seq {io : List Bool} {s r : MS} {env e : Env} {x : Rf} (h : s env = .ok .nx e) (h2 : fin io (r e) = x) : fin io (sSeq s r env) = x := by
  rw [seq_nx h rfl, h2]
theorem add_i {a b : Int} : fAdd (.int a) (.int b) = some (.int (a + b)) := nrfl rfl
theorem sub_i {a b : Int} : fSub (.int a) (.int b) = some (.int (a - b)) := nrfl rfl
theorem mod_i {a b : Int} : fMod (.int a) (.int b) = if 0 < b then some (.int (a % b)) else none := nrfl rfl
theorem div_i {a b : Int} : fDiv (.int a) (.int b) = if 0 < b ∧ b.natAbs.log2 < 9000 then some (.int (a / b)) else none := nrfl rfl
theorem lt_i {a b : Int} : fLt (.int a) (.int b) = some (.bl (decide (a < b))) := nrfl rfl
theorem le_i {a b : Int} : fLe (.int a) (.int b) = some (.bl (decide (a ≤ b))) := nrfl rfl
theorem gt_i {a b : Int} : fGt (.int a) (.int b) = some (.bl (decide (b < a))) := nrfl rfl
theorem ge_i {a b : Int} : fGe (.int a) (.int b) = some (.bl (decide (b ≤ a))) := nrfl rfl
theorem abs_i {a : Int} : fAbs [.int a] = some (.int (if a < 0 then -a else a)) := nrfl rfl
theorem int_i {a : Int} : fInt [.int a] = some (.int a) := nrfl rfl
theorem int_b {a : Bool} : fInt [.bl a] = some (.int (if a then 1 else 0)) := nrfl rfl
theorem neg_i {a : Int} : fNeg (.int a) = some (.int (-a)) := nrfl rfl
theorem fzn_1 : fzn .non = true := nrfl rfl
theorem fzn_2 {b : Bool} : fzn (.bl b) = true := nrfl rfl
theorem fzn_3 {b : Int} : fzn (.int b) = true := nrfl rfl
theorem fzn_4 {b : Str} : fzn (.str b) = true := nrfl rfl
theorem fzn_5 {ds : List D} : fzn (.tup ds) = fznL ds := by rw [fzn]
theorem fzn_6 {o : Bool} {ds : List D} : fzn (.lst o ds) = (!o && fznL ds) := by rw [fzn]
theorem fzn_7 {o : Bool} {ds : List (D × D)} : fzn (.dct o ds) = (!o && fznK ds) := by rw [fzn]
theorem fzn_8 {o : Bool} {c : String} {ds : List (String × D)} : fzn (.ins o c ds) = (!o && fznF ds) := by rw [fzn]
theorem fzn_9 {ds : List D} : fzn (.set ds) = true := by rw [fzn]
theorem fzn_s {ds : List D} : fzn (.scr ds) = fznL ds := by rw [fzn]
theorem fznL_n : fznL [] = true := nrfl rfl
theorem fznL_c {d : D} {ds : List D} : fznL (d :: ds) = (fzn d && fznL ds) := by rw [fznL]
theorem fznK_n : fznK [] = true := nrfl rfl
theorem fznK_c {k d : D} {ds : List (D × D)} : fznK ((k, d) :: ds) = (fzn d && fznK ds) := by rw [fznK]
theorem fznF_n : fznF [] = true := nrfl rfl
theorem fznF_c {k : String} {d : D} {ds : List (String × D)} : fznF ((k, d) :: ds) = (fzn d && fznF ds) := by rw [fznF]
theorem is_n : fIs .non .non = some (.bl true) := rfl
theorem nis_n : fNis .non .non = some (.bl false) := rfl
theorem is_i {i : Int} : fIs (.int i) .non = some (.bl false) := rfl
theorem nis_i {i : Int} : fNis (.int i) .non = some (.bl true) := rfl
theorem is_t {i : List D} : fIs (.tup i) .non = some (.bl false) := rfl
theorem nis_t {i : List D} : fNis (.tup i) .non = some (.bl true) := rfl
theorem putD_n {f : String} {d : D} : putD f d [] = [(f, d)] := by rw [putD]
theorem putD_c {f g : String} {d x : D} {r : List (String × D)} : putD f d ((g, x) :: r) = if g = f then (g, d) :: r else (g, x) :: putD f d r := by rw [putD]
end Mi
set_option maxHeartbeats 4000000
namespace Mi
open PySem PySem.Spec PyProof.Rows L2 RZ Ov PpSet
/-! ### loops -/
theorem for_inv {g : MG} {m : MS} : ∀ (ds : List D) (Iv : Nat → Env → Prop), (∀ i d env, ds[i]? = some d → Iv i env → ∃ e e', g d env = some e ∧ (m e = .ok .nx e' ∨ m e = .ok .ct e') ∧ Iv (i + 1) e') →
    ∀ {env : Env}, Iv 0 env → ∃ e', forL g m ds env = .ok .nx e' ∧ Iv ds.length e'
  | [], Iv, _, env, h0 => ⟨env, rfl, h0⟩
  | d :: ds, Iv, h, env, h0 => by
    obtain ⟨e, e', h1, h2, h3⟩ := h 0 d env rfl h0
    obtain ⟨e2, k1, k2⟩ := for_inv ds (fun i => Iv (i + 1)) (fun i d env hd hi => h (i + 1) d env hd hi) h3
    refine ⟨e2, ?_, k2⟩
    rw [forL, h1]
    rcases h2 with h2 | h2
    · simp only [h2, v_bo, k1]
    · simp only [h2, v_bo, k1]
theorem for_cons {g : MG} {m : MS} {d : D} {ds : List D} {env e e' : Env} (h : g d env = some e) (h2 : m e = .ok .nx e') : forL g m (d :: ds) env = forL g m ds e' := by
  rw [forL, h]
  simp only [h2, v_bo]
theorem for_nil {g : MG} {m : MS} {env : Env} : forL g m [] env = .ok .nx env := rfl
/-! while -/
/-! ### numbers -/
theorem log2_lt {a k : Nat} (h : a < 2 ^ k) (hk : 0 < k) : a.log2 < k := by
  by_cases z : a = 0
  · subst z; simpa using hk
  · exact (Nat.log2_lt z).mpr h
theorem mulOk_of {a b : Int} (ha : a.natAbs < 2 ^ 5000) (hb : b.natAbs < 2 ^ 5000) : mulOk a b = true := by
  unfold mulOk
  refine decide_eq_true ?_
  have h1 := log2_lt ha (by decide)
  have h2 := log2_lt hb (by decide)
  omega
theorem abs_lt {a : Int} {k : Nat} (h0 : 0 ≤ a) (h : a < 2 ^ k) : a.natAbs < 2 ^ k := by
  have e : ((a.natAbs : Nat) : Int) = a := by omega
  have : ((a.natAbs : Nat) : Int) < ((2 ^ k : Nat) : Int) := by rw [e]; simpa using h
  exact Int.ofNat_lt.mp this
theorem pow_le {a j k : Nat} (h : a < 2 ^ j) (hk : j ≤ k) : a < 2 ^ k := Nat.lt_of_lt_of_le h (Nat.pow_le_pow_right (by decide) hk)
end Mi
set_option maxHeartbeats 4000000
set_option exponentiation.threshold 100000
namespace Mi
open PySem PySem.Spec PyProof.Rows L2 RZ Ov PpSet
local macro_rules | `(tactic| walk_at "ev") => `(tactic| simp -dsimp only [*, b_bo, b_b0, v_bo, v_b0, v_c, v_v, v_mv, v_vk, v_k, v_fk, v_nil, v_cons, v_1, v_2, v_L, v_bB, asB_b, v_bAnd, v_bOr, v_bNot, v_bYes, v_if, v_and, v_or, v_not, v_tup, v_lst, v_fld, asI_i, v_oN, v_oS, optI_i, v_sl, v_rg1, v_rg2, v_lrg, v_trg, chainK_b, v_chain,
  Fl.k_nx, Fl.k_rt, Fl.k_bk, Fl.k_ct, v_seq, v_pass, v_bk, v_ct, v_ret, v_retN, v_expr, v_sif, v_asg, optE_s, v_gN, v_gT, v_gsN, v_gsC, Option.bind_some, v_par, v_par3, v_aug, v_put, v_sfld, v_for, optL_s, v_iSeq, v_iOf, v_iStr, v_lc, v_mList, Rf.back_ok, optP_s, v_callF, v_call, v_aN, v_aE, v_aI, v_fN, v_fE, v_fI, optD_s, Option.map_some,
  v_kN, v_kE, v_kI, v_methE, v_methI, Rf.newB_ok, v_new, fin_rt, fin_nx, getR_s, liftK_s, R.ite_t, R.ite_f, List.getElem?_cons_zero, List.getElem?_cons_succ, List.set_cons_zero, List.set_cons_succ, List.map_cons, List.map_nil, List.cons_append, List.nil_append, List.replicate_succ, List.replicate_zero, k2_s, k3_s, insK_s, strK_s, mlK_s, optF_s, joinO_s, v_gp, v_gq, fldO_s, v_gf, setO_s, v_gs, optR_s, al_n, al_c, pi_t, pi_f, pi_n, wi_n, wi_c,
  add_i, sub_i, mod_i, div_i, pow_60, pow_18, lt_i, le_i, gt_i, ge_i, mul_i, is_n, nis_n, is_i, nis_i, is_t, nis_t, ix_t, ix_l, ix_s, set0, set1, set2, len_t, len_l, len_s, abs_i, int_i, int_b, sl_l, sl_t, fz_l, fz_t, fz_d, fz_i, seq_t, seq_l, zip_l, zip_t, enum_l, tuple_l, tuple_t, list_l, list_t, neg_i, isa_isInt_non, isa_isInt_bl, isa_isInt_int, isa_isInt_str, isa_isInt_tup, isa_isInt_lst, isa_isInt_scr, isa_isInt_dct, isa_isBool_non, isa_isBool_bl, isa_isBool_int, isa_isBool_str, isa_isBool_tup, isa_isBool_lst, isa_isBool_scr, isa_isBool_dct, isa_isStr_non, isa_isStr_bl, isa_isStr_int, isa_isStr_str, isa_isStr_tup, isa_isStr_lst, isa_isStr_scr, isa_isStr_dct, isa_isTuple_non, isa_isTuple_bl, isa_isTuple_int, isa_isTuple_str, isa_isTuple_tup, isa_isTuple_lst, isa_isTuple_scr, isa_isTuple_dct, isa_isList_non, isa_isList_bl, isa_isList_int, isa_isList_str, isa_isList_tup, isa_isList_lst, isa_isList_scr, isa_isList_dct, isa_isDict_non, isa_isDict_bl, isa_isDict_int, isa_isDict_str, isa_isDict_tup, isa_isDict_lst, isa_isDict_scr, isa_isDict_dct, eq_i, ne_i, eq_s, ne_s, fzn_1, fzn_2, fzn_3, fzn_4, fzn_5, fzn_6, fzn_7, fzn_8, fzn_9, fzn_s, fznL_n, fznL_c, fznK_n, fznK_c, fznF_n, fznF_c, sz0, sz1, sz2, sz3, sz4, sz5, sz6, sz7, sz8, pk1, pk2, pk3, pk4, fzL_n, fzL_c, fz_int, fz_bl, fz_str, fz_non, putD_n, putD_c, at0, at1, at2, at3, ix0, ix1, ix2, Bool.not_true, Bool.not_false, Bool.true_and, Bool.and_true, Bool.false_and, Bool.and_false, Bool.or_true, Bool.true_or, Bool.false_or, Bool.or_false, if_true, if_false, Bool.false_eq_true, decide_true, decide_false, and_self, and_true, true_and, not_true_eq_false, not_false_eq_true, ne_eq, false_and, and_false, eq_self])
local macro_rules | `(tactic| walk_at "env") => `(tactic| simp only [List.map_cons, List.map_nil, List.cons_append, List.nil_append, List.replicate_succ, List.replicate_zero])
section
/-! ### the box -/
def Bx (N : Nat) (d : D) : Prop := ∃ (o s n : Int), d = .lst true [.int o, .int s, .int n] ∧ 0 ≤ o ∧ o < 10 ^ 240 ∧ 0 ≤ s ∧ s < 2305843009213693951 ∧ 0 ≤ n ∧ n ≤ (N : Int)
theorem Bx.mono {N M : Nat} {d : D} (h : Bx N d) (hN : N ≤ M) : Bx M d := by
  obtain ⟨o, s, n, h0, h1, h2, h3, h4, h5, h6⟩ := h
  exact ⟨o, s, n, h0, h1, h2, h3, h4, h5, by omega⟩
theorem emod_b {a m : Int} (h : 0 < m) : 0 ≤ a % m ∧ a % m < m := ⟨Int.emod_nonneg _ (by omega), Int.emod_lt_of_pos _ h⟩
theorem small_abs {a : Int} (h0 : 0 ≤ a) (h : a < 2 ^ 1000) : a.natAbs < 2 ^ 5000 := pow_le (abs_lt h0 h) (by decide)
theorem mulOk_s {a b : Int} (h0 : 0 ≤ a) (h : a < 2 ^ 1000) (h1 : 0 ≤ b) (h2 : b < 2 ^ 1000) : mulOk a b = true := mulOk_of (small_abs h0 h) (small_abs h1 h2)
theorem lt_k {a : Int} {k : Int} (h : a < k) (hk : k ≤ 2 ^ 1000 := by decide +kernel) : a < 2 ^ 1000 := Int.lt_of_lt_of_le h hk
theorem mul_lt' {a b x y : Int} (h0 : 0 ≤ a) (h1 : a < x) (h2 : 0 ≤ b) (h3 : b < y) : 0 ≤ a * b ∧ a * b < x * y := by
  refine ⟨Int.mul_nonneg h0 h2, ?_⟩
  have h4 : a * b ≤ a * y := Int.mul_le_mul_of_nonneg_left (by omega) h0
  have h5 : a * y < x * y := Int.mul_lt_mul_of_pos_right h1 (by omega)
  omega
theorem take_spec {N : Nat} {b : D} {m : Int} (hb : Bx N b) (hN : N ≤ 2 ^ 60) (h0 : 0 < m) (h1 : m ≤ 10 ^ 40) : ∃ r b', m_l_take [b, .int m] = .ok (.int r) [b'] ∧ 0 ≤ r ∧ r < m ∧ Bx (N + 1) b' := by
  obtain ⟨o, s, n, rfl, q1, q2, q3, q4, q5, q6⟩ := hb
  have l40 : m < 2 ^ 1000 := Int.lt_of_le_of_lt h1 (by decide +kernel)
  have lm : m.natAbs.log2 < 9000 := by
    have := log2_lt (abs_lt (by omega) l40) (by decide)
    omega
  by_cases ho : 0 < o
  · refine ⟨o % m, .lst true [.int (o / m), .int s, .int n], ?_, (emod_b h0).1, (emod_b h0).2, _, _, _, rfl, Int.ediv_nonneg q1 (by omega), ?_, q3, q4, q5, by omega⟩
    · unfold m_l_take b_l_take
      rw [v_fn]
      walk_at "ev"
    · have := Int.ediv_le_self m q1
      omega
  · have n1 : n + 1 < 2 ^ 62 := by omega
    have e1 : mulOk 65537 (n + 1) = true := mulOk_s (by omega) (by decide +kernel) (by omega) (lt_k n1)
    obtain ⟨c1, c2⟩ := mul_lt' (a := 65537) (x := 65538) (b := n + 1) (by omega) (by omega) (by omega) n1
    have e2 : mulOk (65537 * (n + 1)) (n + 1) = true := mulOk_s c1 (lt_k c2) (by omega) (lt_k n1)
    obtain ⟨c3, c4⟩ := mul_lt' (a := 65537 * (n + 1)) (b := n + 1) c1 c2 (by omega) n1
    have e3 : mulOk (s + 65537 * (n + 1) * (n + 1) + 11) 48271 = true := mulOk_s (by omega) (lt_k (k := 2 ^ 200) (by omega)) (by omega) (by decide +kernel)
    generalize hx : (s + 65537 * (n + 1) * (n + 1) + 11) * 48271 % 2305843009213693921 = x
    obtain ⟨x1, x2⟩ := emod_b (a := (s + 65537 * (n + 1) * (n + 1) + 11) * 48271) (m := 2305843009213693921) (by omega)
    rw [hx] at x1 x2
    have e4 : mulOk 99991 (n + 1) = true := mulOk_s (by omega) (by decide +kernel) (by omega) (lt_k n1)
    obtain ⟨y1, y2⟩ := emod_b (a := x) (m := 1000003) (by omega)
    have e5 : mulOk x (x % 1000003 + 99991 * (n + 1)) = true := mulOk_s x1 (lt_k x2) (by omega) (lt_k (k := 2 ^ 100) (by omega))
    generalize hy : x * (x % 1000003 + 99991 * (n + 1)) % 2305843009213693907 = y
    refine ⟨(y / 97 + y / 1000033) % m, .lst true [.int o, .int s, .int (n + 1)], ?_, (emod_b h0).1, (emod_b h0).2, _, _, _, rfl, q1, q2, q3, q4, by omega, by omega⟩
    have k1 : (0 : Int) < 2305843009213693921 := by decide
    have k2 : (0 : Int) < 2305843009213693907 := by decide
    have k3 : (0 : Int) < 1000003 := by decide
    have k4 : (0 : Int) < 97 := by decide
    have k5 : (0 : Int) < 1000033 := by decide
    have k6 : (97 : Int).natAbs.log2 < 9000 := by decide +kernel
    have k7 : (1000033 : Int).natAbs.log2 < 9000 := by decide +kernel
    clear hN q1 q2 q3 q4 q5 q6 h1 c1 c2 c3 c4 x1 x2 y1 y2 n1
    unfold m_l_take b_l_take
    rw [v_fn]
    walk_at "ev"
theorem at_mem {α : Type} {xs : List α} {i : Int} (h0 : 0 ≤ i) (h : i < xs.length) : ∃ x ∈ xs, atI xs i = some x := by
  obtain ⟨j, rfl⟩ := Int.eq_ofNat_of_zero_le h0
  have hj : j < xs.length := by omega
  exact ⟨xs[j], List.getElem_mem hj, atI_nat (List.getElem?_eq_getElem hj)⟩
theorem fznL_of {ds : List D} (h : ∀ d ∈ ds, fzn d = true) : fznL ds = true := by
  induction ds with
  | nil => rfl
  | cons a r ih =>
    rw [fznL, h a (List.mem_cons_self ..), ih fun d hd => h d (List.mem_cons_of_mem _ hd)]
    rfl
theorem fznL_map {α : Type} {f : α → D} {l : List α} (h : ∀ a ∈ l, fzn (f a) = true) : fznL (l.map f) = true := fznL_of fun d hd => by
  obtain ⟨a, ha, rfl⟩ := List.mem_map.mp hd
  exact h a ha
theorem box_spec {ns : List Int} {k : Nat} (hk : k < 1000) : ∃ b, m_l_box [.scr (ns.map .int), .int k] = .ok b [] ∧ Bx 0 b := by
  obtain ⟨c, hc⟩ : ∃ c : Int, (eIf (bB (e2 fLt (eV 1) (eL fLen (lCons (eV 0) lNil)))) (eK (e2 fIx (eV 0) (eV 1))) (eC (.int 0))) [some (.scr (ns.map .int)), some (.int k), none, none] = .ok (.int c) [some (.scr (ns.map .int)), some (.int k), none, none] := by
    by_cases h : (k : Int) < ((ns.map D.int).length : Int)
    · obtain ⟨x, hx, h2⟩ := at_mem (xs := ns.map D.int) (by omega) h
      obtain ⟨c, _, rfl⟩ := List.mem_map.mp hx
      exact ⟨c, by walk_at "ev"⟩
    · exact ⟨0, by walk_at "ev"⟩
  have e1 : mulOk (10 ^ 60) (10 ^ 60) = true := by decide +kernel
  have e2 : mulOk (10 ^ 60 * 10 ^ 60) (10 ^ 60) = true := by decide +kernel
  have e3 : mulOk (10 ^ 60 * 10 ^ 60 * 10 ^ 60) (10 ^ 60) = true := by decide +kernel
  have hp : (0 : Int) < 10 ^ 60 * 10 ^ 60 * 10 ^ 60 * 10 ^ 60 := by decide +kernel
  generalize ha : (if c < 0 then -c else c) = a
  obtain ⟨a1, a2⟩ := emod_b (a := a) hp
  obtain ⟨i, hi, i1, i2⟩ : ∃ i : Int, (if decide ((10 : Int) ^ 18 ≤ a) = true then (1 : Int) else 0) = i ∧ 0 ≤ i ∧ i ≤ 1 := by
    by_cases h : (10 : Int) ^ 18 ≤ a
    · exact ⟨1, by simp only [h, decide_true, if_true], by omega, by omega⟩
    · exact ⟨0, by simp only [h, decide_false, Bool.false_eq_true, if_false], by omega, by omega⟩
  have e4 : mulOk (a % (10 ^ 60 * 10 ^ 60 * 10 ^ 60 * 10 ^ 60)) i = true := mulOk_s a1 (lt_k a2) i1 (lt_k (k := 2) (by omega))
  have e5 : mulOk 7919 (k : Int) = true := mulOk_s (by omega) (by decide +kernel) (by omega) (lt_k (k := 1000) (by omega))
  obtain ⟨c1, c2⟩ := mul_lt' (a := 7919) (x := 8000) (b := (k : Int)) (y := 1000) (by omega) (by omega) (by omega) (by omega)
  have e6 : mulOk (7919 * (k : Int)) (k : Int) = true := mulOk_s c1 (lt_k c2) (by omega) (lt_k (k := 1000) (by omega))
  obtain ⟨c3, c4⟩ := mul_lt' c1 c2 (b := (k : Int)) (y := 1000) (by omega) (by omega)
  obtain ⟨d1, d2⟩ := emod_b (a := c) (m := 2305843009213693951) (by omega)
  have e7 : mulOk (c % 2305843009213693951 + 7919 * (k : Int) * (k : Int) + 43) 48271 = true := mulOk_s (by omega) (lt_k (k := 2 ^ 200) (by omega)) (by omega) (by decide +kernel)
  obtain ⟨f1, f2⟩ := emod_b (a := (c % 2305843009213693951 + 7919 * (k : Int) * (k : Int) + 43) * 48271) (m := 2305843009213693921) (by omega)
  refine ⟨.lst true [.int (a % (10 ^ 60 * 10 ^ 60 * 10 ^ 60 * 10 ^ 60) * i), .int ((c % 2305843009213693951 + 7919 * (k : Int) * (k : Int) + 43) * 48271 % 2305843009213693921), .int 0], ?_, _, _, _, rfl, ?_, ?_, f1, by omega, by omega, by omega⟩
  · have k1 : (0 : Int) < 2305843009213693951 := by decide
    have k2 : (0 : Int) < 2305843009213693921 := by decide
    have k3 : (3 : Nat) ≤ sizeLine := by decide
    clear a1 a2 i1 i2 c1 c2 c3 c4 d1 d2 f1 f2
    unfold m_l_box b_l_box
    rw [v_fn]
    simp only [List.map_cons, List.map_nil, List.cons_append, List.nil_append, List.replicate_succ, List.replicate_zero]
    rw [v_seq, v_asg, hc]
    clear hc
    walk_at "ev"
  · rcases (by omega : i = 0 ∨ i = 1) with rfl | rfl
    · rw [Int.mul_zero]; exact Int.le_refl _
    · rw [Int.mul_one]; exact a1
  · have hq : (10 : Int) ^ 60 * 10 ^ 60 * 10 ^ 60 * 10 ^ 60 = 10 ^ 240 := by decide +kernel
    rw [hq] at a2 ⊢
    rcases (by omega : i = 0 ∨ i = 1) with rfl | rfl
    · rw [Int.mul_zero]; decide +kernel
    · rw [Int.mul_one]; exact a2
end
section
/-! ### comprehensions of a list given by a map -/
theorem lcF_map {α : Type} {g : MG} {m : ME} {ws : List Nat} {env : Env} {f y : α → D} : ∀ (l : List α) (acc : List D), (∀ a ∈ l, ∃ e, g (f a) env = some e ∧ m e = .ok (y a) e ∧ wipeE e ws = env) → acc.length + l.length ≤ sizeLine →
    lcF g bYes m ws (l.map f) acc env = .ok (acc ++ l.map y) env
  | [], acc, _, _ => by simp [lcF]
  | a :: l, acc, h, hl => by
    obtain ⟨e, h1, h3, h4⟩ := h a (List.mem_cons_self ..)
    rw [List.map_cons, lcF, h1]
    simp only [v_bYes, v_b0, if_true, h3]
    rw [if_pos (by simp at hl; omega), h4, lcF_map l (acc ++ [y a]) (fun d hd => h d (List.mem_cons_of_mem _ hd)) (by simp at hl ⊢; omega)]
    simp
theorem eLc_map {α : Type} {it : MI} {g : MG} {m : ME} {ws : List Nat} {env e env0 : Env} (l : List α) (f y : α → D) (h1 : it env = .ok (l.map f) e) (h2 : wipeE e ws = env0) (hl : l.length ≤ sizeLine)
    (h : ∀ a ∈ l, ∃ e, g (f a) env0 = some e ∧ m e = .ok (y a) e ∧ wipeE e ws = env0) : eLc it g bYes m ws env = .ok (.lst true (l.map y)) env0 := by
  rw [v_lc, h1, b_bo, h2, lcF_map l [] h (by simpa using hl), b_b0]
  rfl
end
section
/-! ### rows of an instruction table -/
def abc : Str := PySem.Str.ofString "abcdefghijklmnopqrstuvwxyz"
structure NameOk (x : Str) : Prop where
  lo : 1 ≤ x.length
  hi : x.length ≤ 8
  abc : ∀ c ∈ x.cps.toList, c ∈ abc.cps.toList
theorem toPyL_map {α : Type} {f : α → D} {g : α → PyData} : ∀ {l : List α}, (∀ a ∈ l, toPy (f a) = some (g a)) → toPyL (l.map f) = some (l.map g)
  | [], _ => by rw [List.map_nil, toPyL]; rfl
  | a :: l, h => by
    rw [List.map_cons, toPyL, h a (List.mem_cons_self ..), toPyL_map fun b hb => h b (List.mem_cons_of_mem _ hb)]
    rfl
theorem NameOk.ok {x : Str} (h : NameOk x) : PyData.strOk x = true := by
  unfold PyData.strOk
  rw [Array.all_eq_true']
  intro c hc
  have := h.abc c (by simpa using hc)
  have h2 : ∀ c ∈ Mi.abc.cps.toList, c < 0x110000 := by decide
  exact decide_eq_true (h2 c this)
end
section
/-! ### names of a table -/
def ltr (f a : Nat) : Nat := abc.cps.toList.getD ((f + 5 * a) % 26) 0
def sfx (c : Nat) : Nat := if c = 122 then 121 else 122
structure NameIs (x : Str) (f a : Nat) : Prop where
  is : ∃ k, 1 ≤ k ∧ k ≤ 3 ∧ x.cps.toList = List.replicate k (ltr f a) ++ List.replicate (a / 26) (sfx (ltr f a))
theorem abc_len : abc.cps.toList.length = 26 := by decide
theorem abc_nd : abc.cps.toList.Nodup := by decide
theorem ltr_get {f a : Nat} : abc.cps.toList[(f + 5 * a) % 26]? = some (ltr f a) := by
  have h : (f + 5 * a) % 26 < abc.cps.toList.length := by rw [abc_len]; exact Nat.mod_lt _ (by decide)
  unfold ltr
  rw [List.getD_eq_getElem?_getD, List.getElem?_eq_getElem h]
  rfl
theorem ltr_mem {f a : Nat} : ltr f a ∈ abc.cps.toList := List.mem_of_getElem? ltr_get
theorem sfx_mem {c : Nat} : sfx c ∈ abc.cps.toList := by
  unfold sfx
  split <;> decide
theorem sfx_ne {c : Nat} : sfx c ≠ c := by
  unfold sfx
  split <;> omega
theorem ltr_inj {f a b : Nat} (h : ltr f a = ltr f b) : a % 26 = b % 26 := by
  have ha : (f + 5 * a) % 26 < abc.cps.toList.length := by rw [abc_len]; exact Nat.mod_lt _ (by decide)
  have : (f + 5 * a) % 26 = (f + 5 * b) % 26 := (List.getElem?_inj ha abc_nd).mp (by rw [ltr_get (f := f) (a := a), ltr_get (f := f) (a := b), h])
  omega
theorem NameIs.len {x : Str} {f a : Nat} (h : NameIs x f a) : 1 ≤ x.length ∧ x.length ≤ 3 + a / 26 := by
  obtain ⟨k, h1, h2, h3⟩ := h.is
  have : x.length = x.cps.toList.length := rfl
  rw [this, h3]
  simp
  omega
theorem NameIs.ok {x : Str} {f a : Nat} (h : NameIs x f a) (ha : a < 150) : NameOk x := by
  obtain ⟨h4, h5⟩ := h.len
  obtain ⟨k, h1, h2, h3⟩ := h.is
  refine ⟨h4, by omega, fun c hc => ?_⟩
  rw [h3, List.mem_append] at hc
  rcases hc with hc | hc
  · rw [List.eq_of_mem_replicate hc]; exact ltr_mem
  · rw [List.eq_of_mem_replicate hc]; exact sfx_mem
theorem NameIs.inj {x : Str} {f a b : Nat} (h : NameIs x f a) (g : NameIs x f b) : a = b := by
  obtain ⟨k, h1, h2, h3⟩ := h.is
  obtain ⟨j, g1, g2, g3⟩ := g.is
  obtain ⟨k, rfl⟩ : ∃ i, k = i + 1 := ⟨k - 1, by omega⟩
  obtain ⟨j, rfl⟩ : ∃ i, j = i + 1 := ⟨j - 1, by omega⟩
  have e : ltr f a = ltr f b := by
    rw [h3] at g3
    simp only [List.replicate_succ, List.cons_append, List.cons.injEq] at g3
    exact g3.1
  have e1 := ltr_inj e
  have cnt : ∀ (n m c : Nat), (List.replicate n c ++ List.replicate m (sfx c)).countP (fun y => decide (y ≠ c)) = m := by
    intro n m c
    have := sfx_ne (c := c)
    rw [List.countP_append, List.countP_replicate, List.countP_replicate]
    simp [this]
  have e2 := cnt (k + 1) (a / 26) (ltr f a)
  rw [← h3, g3, e] at e2
  have e3 := cnt (j + 1) (b / 26) (ltr f b)
  omega
end
section
/-! ### further steps -/
def parOk (ds : List D) (is : List Nat) : Bool := decide (ds.length = is.length ∧ ds.length ≤ sizeLine)
theorem v_parN {is : List Nat} {ms : ML} {env : Env} : sParN is ms env = (ms env).bindL (fun ds e => R.ite (parOk ds is) (fun _ => .ok .nx (setsE e is ds)) (fun _ => .no) () ()) () := by
  simp only [R.bindL]
  unfold sParN parOk
  congr 1; funext ds e
  by_cases h : ds.length = is.length ∧ ds.length ≤ sizeLine
  · rw [if_pos h, decide_eq_true h]; rfl
  · rw [if_neg h, decide_eq_false h]; rfl
theorem po2 {a b : D} {i j : Nat} : parOk [a, b] [i, j] = true := decide_eq_true ⟨rfl, sz2⟩
theorem po3 {a b c : D} {i j k : Nat} : parOk [a, b, c] [i, j, k] = true := decide_eq_true ⟨rfl, sz3⟩
theorem po4 {a b c d : D} {i j k l : Nat} : parOk [a, b, c, d] [i, j, k, l] = true := decide_eq_true ⟨rfl, sz4⟩
theorem se_n {env : Env} : setsE env [] [] = env := nrfl rfl
theorem se_c {env : Env} {i : Nat} {is : List Nat} {d : D} {ds : List D} : setsE env (i :: is) (d :: ds) = setsE (env.set i (some d)) is ds := nrfl rfl
theorem v_gUL {gs : MGs} {o : Bool} {ds : List D} {env : Env} : gUL gs (.lst o ds) env = if fznL ds then gs ds env else none := nrfl rfl
theorem v_dnew {env : Env} : eDNew env = .ok (.dct true []) env := nrfl rfl
theorem fi2_i {g : Int → Int → Option D} {a b : Int} : fI2 g (.int a) (.int b) = g a b := nrfl rfl
theorem gdiv_i {a b : Int} : gDiv a b = if 0 < b ∧ b.natAbs.log2 < 9000 then some (.int (a / b)) else none := nrfl rfl
end
section
/-! ### loops that may return -/
theorem gadd_i {a b : Int} : gAdd a b = some (.int (a + b)) := nrfl rfl
end
section
/-! ### maps of codes: what both compute -/
/-! ### the law's map -/
/-! ### the program's map -/
/-! ### repr -/
theorem repr_ok {d : D} {p : PyData} {n : Nat} (h : toPy d = some p) (h1 : plainD n p = true) (hn : n ≤ 60) (hs : p.showable = true) (hw : wt p ≤ 8000) : fRepr [d] = some (.str p.shown) := by
  obtain ⟨h2, h3⟩ := shows h1 hn hs hw
  unfold fRepr
  simp only [h, hs, decide_eq_true h2, decide_eq_true h3, Bool.and_self, if_true]
end
end Mi
set_option maxHeartbeats 4000000
set_option exponentiation.threshold 100000
namespace Mi
open PySem PySem.Spec PyProof.Rows L2 RZ Ov PpSet
local macro_rules | `(tactic| walk_at "ev") => `(tactic| simp -dsimp only [*, b_bo, b_b0, v_bo, v_b0, v_c, v_v, v_mv, v_vk, v_k, v_fk, v_nil, v_cons, v_1, v_2, v_L, v_bB, asB_b, v_bAnd, v_bOr, v_bNot, v_bYes, v_if, v_and, v_or, v_not, v_tup, v_lst, v_fld, asI_i, v_oN, v_oS, optI_i, v_sl, v_rg1, v_rg2, v_lrg, v_trg, chainK_b, v_chain,
  Fl.k_nx, Fl.k_rt, Fl.k_bk, Fl.k_ct, v_seq, v_pass, v_bk, v_ct, v_ret, v_retN, v_expr, v_sif, v_asg, optE_s, v_gN, v_gT, v_gsN, v_gsC, Option.bind_some, v_par, v_par3, v_aug, v_put, v_sfld, v_for, optL_s, v_iSeq, v_iOf, v_iStr, v_lc, v_mList, Rf.back_ok, optP_s, v_callF, v_call, v_aN, v_aE, v_aI, v_fN, v_fE, v_fI, optD_s, Option.map_some,
  v_kN, v_kE, v_kI, v_methE, v_methI, Rf.newB_ok, v_new, fin_rt, fin_nx, getR_s, liftK_s, R.ite_t, R.ite_f, List.getElem?_cons_zero, List.getElem?_cons_succ, List.set_cons_zero, List.set_cons_succ, List.map_cons, List.map_nil, List.cons_append, List.nil_append, List.replicate_succ, List.replicate_zero, k2_s, k3_s, insK_s, strK_s, mlK_s, optF_s, joinO_s, v_gp, v_gq, fldO_s, v_gf, setO_s, v_gs, optR_s, al_n, al_c, pi_t, pi_f, pi_n, wi_n, wi_c,
  add_i, sub_i, mod_i, div_i, pow_60, pow_18, lt_i, le_i, gt_i, ge_i, mul_i, is_n, nis_n, is_i, nis_i, is_t, nis_t, ix_t, ix_l, ix_s, set0, set1, set2, len_t, len_l, len_s, abs_i, int_i, int_b, sl_l, sl_t, fz_l, fz_t, fz_d, fz_i, seq_t, seq_l, zip_l, zip_t, enum_l, tuple_l, tuple_t, list_l, list_t, neg_i, isa_isInt_non, isa_isInt_bl, isa_isInt_int, isa_isInt_str, isa_isInt_tup, isa_isInt_lst, isa_isInt_scr, isa_isInt_dct, isa_isBool_non, isa_isBool_bl, isa_isBool_int, isa_isBool_str, isa_isBool_tup, isa_isBool_lst, isa_isBool_scr, isa_isBool_dct, isa_isStr_non, isa_isStr_bl, isa_isStr_int, isa_isStr_str, isa_isStr_tup, isa_isStr_lst, isa_isStr_scr, isa_isStr_dct, isa_isTuple_non, isa_isTuple_bl, isa_isTuple_int, isa_isTuple_str, isa_isTuple_tup, isa_isTuple_lst, isa_isTuple_scr, isa_isTuple_dct, isa_isList_non, isa_isList_bl, isa_isList_int, isa_isList_str, isa_isList_tup, isa_isList_lst, isa_isList_scr, isa_isList_dct, isa_isDict_non, isa_isDict_bl, isa_isDict_int, isa_isDict_str, isa_isDict_tup, isa_isDict_lst, isa_isDict_scr, isa_isDict_dct, eq_i, ne_i, eq_s, ne_s, fzn_1, fzn_2, fzn_3, fzn_4, fzn_5, fzn_6, fzn_7, fzn_8, fzn_9, fzn_s, fznL_n, fznL_c, fznK_n, fznK_c, fznF_n, fznF_c, sz0, sz1, sz2, sz3, sz4, sz5, sz6, sz7, sz8, pk1, pk2, pk3, pk4, fzL_n, fzL_c, fz_int, fz_bl, fz_str, fz_non, putD_n, putD_c, at0, at1, at2, at3, ix0, ix1, ix2, Bool.not_true, Bool.not_false, Bool.true_and, Bool.and_true, Bool.false_and, Bool.and_false, Bool.or_true, Bool.true_or, Bool.false_or, Bool.or_false, if_true, if_false, Bool.false_eq_true, decide_true, decide_false, and_self, and_true, true_and, not_true_eq_false, not_false_eq_true, ne_eq, false_and, and_false, eq_self])
local macro_rules | `(tactic| walk_at "env") => `(tactic| simp only [List.map_cons, List.map_nil, List.cons_append, List.nil_append, List.replicate_succ, List.replicate_zero])
local macro_rules | `(tactic| walk_at "ew") => `(tactic| simp -dsimp only [*, b_bo, b_b0, v_bo, v_b0, v_c, v_v, v_mv, v_vk, v_k, v_fk, v_nil, v_cons, v_1, v_2, v_L, v_bB, asB_b, v_bAnd, v_bOr, v_bNot, v_bYes, v_if, v_and, v_or, v_not, v_tup, v_lst, v_fld, asI_i, v_oN, v_oS, optI_i, v_sl, v_rg1, v_rg2, v_lrg, v_trg, chainK_b, v_chain,
  Fl.k_nx, Fl.k_rt, Fl.k_bk, Fl.k_ct, v_seq, v_pass, v_bk, v_ct, v_ret, v_retN, v_expr, v_sif, v_asg, optE_s, v_gN, v_gT, v_gsN, v_gsC, Option.bind_some, v_par, v_par3, v_aug, v_put, v_sfld, v_for, optL_s, v_iSeq, v_iOf, v_iStr, v_lc, v_mList, Rf.back_ok, optP_s, v_callF, v_call, v_aN, v_aE, v_aI, v_fN, v_fE, v_fI, optD_s, Option.map_some,
  v_kN, v_kE, v_kI, v_methE, v_methI, Rf.newB_ok, v_new, fin_rt, fin_nx, getR_s, liftK_s, R.ite_t, R.ite_f, List.getElem?_cons_zero, List.getElem?_cons_succ, List.set_cons_zero, List.set_cons_succ, List.map_cons, List.map_nil, List.cons_append, List.nil_append, List.replicate_succ, List.replicate_zero, k2_s, k3_s, insK_s, strK_s, mlK_s, optF_s, joinO_s, v_gp, v_gq, fldO_s, v_gf, setO_s, v_gs, optR_s, al_n, al_c, pi_t, pi_f, pi_n, wi_n, wi_c,
  add_i, sub_i, mod_i, div_i, pow_60, pow_18, lt_i, le_i, gt_i, ge_i, mul_i, is_n, nis_n, is_i, nis_i, is_t, nis_t, ix_t, ix_l, ix_s, set0, set1, set2, len_t, len_l, len_s, abs_i, int_i, int_b, sl_l, sl_t, fz_l, fz_t, fz_d, fz_i, seq_t, seq_l, zip_l, zip_t, enum_l, tuple_l, tuple_t, list_l, list_t, neg_i, isa_isInt_non, isa_isInt_bl, isa_isInt_int, isa_isInt_str, isa_isInt_tup, isa_isInt_lst, isa_isInt_scr, isa_isInt_dct, isa_isBool_non, isa_isBool_bl, isa_isBool_int, isa_isBool_str, isa_isBool_tup, isa_isBool_lst, isa_isBool_scr, isa_isBool_dct, isa_isStr_non, isa_isStr_bl, isa_isStr_int, isa_isStr_str, isa_isStr_tup, isa_isStr_lst, isa_isStr_scr, isa_isStr_dct, isa_isTuple_non, isa_isTuple_bl, isa_isTuple_int, isa_isTuple_str, isa_isTuple_tup, isa_isTuple_lst, isa_isTuple_scr, isa_isTuple_dct, isa_isList_non, isa_isList_bl, isa_isList_int, isa_isList_str, isa_isList_tup, isa_isList_lst, isa_isList_scr, isa_isList_dct, isa_isDict_non, isa_isDict_bl, isa_isDict_int, isa_isDict_str, isa_isDict_tup, isa_isDict_lst, isa_isDict_scr, isa_isDict_dct, eq_i, ne_i, eq_s, ne_s, fzn_1, fzn_2, fzn_3, fzn_4, fzn_5, fzn_6, fzn_7, fzn_8, fzn_9, fzn_s, fznL_n, fznL_c, fznK_n, fznK_c, fznF_n, fznF_c, sz0, sz1, sz2, sz3, sz4, sz5, sz6, sz7, sz8, pk1, pk2, pk3, pk4, fzL_n, fzL_c, fz_int, fz_bl, fz_str, fz_non, putD_n, putD_c, at0, at1, at2, at3, ix0, ix1, ix2, Bool.not_true, Bool.not_false, Bool.true_and, Bool.and_true, Bool.false_and, Bool.and_false, Bool.or_true, Bool.true_or, Bool.false_or, Bool.or_false, if_true, if_false, Bool.false_eq_true, decide_true, decide_false, and_self, and_true, true_and, not_true_eq_false, not_false_eq_true, ne_eq, false_and, and_false, eq_self, v_parN, po2, po3, po4, se_n, se_c, v_gUL, v_dnew, fi2_i, gdiv_i])
section
/-! ### maps as functions -/
abbrev MF := Nat → Option Nat × Nat
def oF (f g : MF) : MF := fun q => match (f q).1 with | none => (none, (f q).2) | some k => ((g k).1, (f q).2 + (g k).2)
def eF : MF := fun q => (some q, 0)
def powF (f : MF) : Nat → MF
  | 0 => eF
  | n + 1 => oF f (powF f n)
end
section
/-! ### along the countdowns, circles at once -/
theorem nodup_le : ∀ (L : Nat) (l : List Nat), l.Nodup → (∀ x ∈ l, x < L) → l.length ≤ L
  | 0, l, _, h => by
    cases l with
    | nil => exact Nat.le_refl _
    | cons a l => exact absurd (h a (List.mem_cons_self ..)) (by omega)
  | L + 1, l, hn, h => by
    have h1 := nodup_le L (l.erase L) (hn.erase L) fun x hx => by
      have h2 := h x (List.mem_of_mem_erase hx)
      have h3 : x ≠ L := fun e => by
        subst e
        exact (List.Nodup.not_mem_erase hn) hx
      omega
    have := List.length_erase (a := L) (l := l)
    split at this <;> omega
theorem find_none {kn : List (Nat × Nat × Nat)} {h : Nat} (e : (kn.find? fun e => decide (e.1 = h)) = none) : ∀ x ∈ kn, x.1 ≠ h := fun x hx => by
  have := List.find?_eq_none.mp e x hx
  simpa using this
structure KnOk (f : MF) (q L t : Nat) (kn : List (Nat × Nat × Nat)) : Prop where
  nd : (kn.map (·.1)).Nodup
  at_ : ∀ e ∈ kn, e.2.1 < t ∧ powF f e.2.1 q = (some e.1, e.2.2) ∧ e.1 < L
theorem KnOk.len {f : MF} {q L t : Nat} {kn : List (Nat × Nat × Nat)} (h : KnOk f q L t kn) : kn.length ≤ L := by
  have := nodup_le L (kn.map (·.1)) h.nd fun x hx => by
    obtain ⟨e, he, rfl⟩ := List.mem_map.mp hx
    exact (h.at_ e he).2.2
  simpa using this
theorem KnOk.add {f : MF} {q L t h c : Nat} {kn : List (Nat × Nat × Nat)} (k : KnOk f q L t kn) (e : (kn.find? fun e => decide (e.1 = h)) = none) (h0 : powF f t q = (some h, c)) (hh : h < L) : KnOk f q L (t + 1) (kn ++ [(h, t, c)]) := by
  refine ⟨?_, fun x hx => ?_⟩
  · rw [List.map_append, List.nodup_append]
    refine ⟨k.nd, by simp, fun a ha b hb => ?_⟩
    obtain ⟨x, hx, rfl⟩ := List.mem_map.mp ha
    simp only [List.map_cons, List.map_nil, List.mem_singleton] at hb
    subst hb
    exact find_none e x hx
  · rcases List.mem_append.mp hx with hx | hx
    · have := k.at_ x hx
      exact ⟨by omega, this.2⟩
    · rw [List.mem_singleton.mp hx]
      exact ⟨by simp, h0, hh⟩
end
section
/-! ### repr of maps -/
def cd (code : List Nat) : D := .tup (code.map fun x : Nat => .int x)
/-! ### the law -/
end
end Mi
set_option maxHeartbeats 4000000
set_option exponentiation.threshold 100000
namespace Mi
open PySem PySem.Spec PyProof.Rows L2 RZ Ov PpSet
local macro_rules | `(tactic| walk_at "ev") => `(tactic| simp -dsimp only [*, b_bo, b_b0, v_bo, v_b0, v_c, v_v, v_mv, v_vk, v_k, v_fk, v_nil, v_cons, v_1, v_2, v_L, v_bB, asB_b, v_bAnd, v_bOr, v_bNot, v_bYes, v_if, v_and, v_or, v_not, v_tup, v_lst, v_fld, asI_i, v_oN, v_oS, optI_i, v_sl, v_rg1, v_rg2, v_lrg, v_trg, chainK_b, v_chain,
  Fl.k_nx, Fl.k_rt, Fl.k_bk, Fl.k_ct, v_seq, v_pass, v_bk, v_ct, v_ret, v_retN, v_expr, v_sif, v_asg, optE_s, v_gN, v_gT, v_gsN, v_gsC, Option.bind_some, v_par, v_par3, v_aug, v_put, v_sfld, v_for, optL_s, v_iSeq, v_iOf, v_iStr, v_lc, v_mList, Rf.back_ok, optP_s, v_callF, v_call, v_aN, v_aE, v_aI, v_fN, v_fE, v_fI, optD_s, Option.map_some,
  v_kN, v_kE, v_kI, v_methE, v_methI, Rf.newB_ok, v_new, fin_rt, fin_nx, getR_s, liftK_s, R.ite_t, R.ite_f, List.getElem?_cons_zero, List.getElem?_cons_succ, List.set_cons_zero, List.set_cons_succ, List.map_cons, List.map_nil, List.cons_append, List.nil_append, List.replicate_succ, List.replicate_zero, k2_s, k3_s, insK_s, strK_s, mlK_s, optF_s, joinO_s, v_gp, v_gq, fldO_s, v_gf, setO_s, v_gs, optR_s, al_n, al_c, pi_t, pi_f, pi_n, wi_n, wi_c,
  add_i, sub_i, mod_i, div_i, pow_60, pow_18, lt_i, le_i, gt_i, ge_i, mul_i, is_n, nis_n, is_i, nis_i, is_t, nis_t, ix_t, ix_l, ix_s, set0, set1, set2, len_t, len_l, len_s, abs_i, int_i, int_b, sl_l, sl_t, fz_l, fz_t, fz_d, fz_i, seq_t, seq_l, zip_l, zip_t, enum_l, tuple_l, tuple_t, list_l, list_t, neg_i, isa_isInt_non, isa_isInt_bl, isa_isInt_int, isa_isInt_str, isa_isInt_tup, isa_isInt_lst, isa_isInt_scr, isa_isInt_dct, isa_isBool_non, isa_isBool_bl, isa_isBool_int, isa_isBool_str, isa_isBool_tup, isa_isBool_lst, isa_isBool_scr, isa_isBool_dct, isa_isStr_non, isa_isStr_bl, isa_isStr_int, isa_isStr_str, isa_isStr_tup, isa_isStr_lst, isa_isStr_scr, isa_isStr_dct, isa_isTuple_non, isa_isTuple_bl, isa_isTuple_int, isa_isTuple_str, isa_isTuple_tup, isa_isTuple_lst, isa_isTuple_scr, isa_isTuple_dct, isa_isList_non, isa_isList_bl, isa_isList_int, isa_isList_str, isa_isList_tup, isa_isList_lst, isa_isList_scr, isa_isList_dct, isa_isDict_non, isa_isDict_bl, isa_isDict_int, isa_isDict_str, isa_isDict_tup, isa_isDict_lst, isa_isDict_scr, isa_isDict_dct, eq_i, ne_i, eq_s, ne_s, fzn_1, fzn_2, fzn_3, fzn_4, fzn_5, fzn_6, fzn_7, fzn_8, fzn_9, fzn_s, fznL_n, fznL_c, fznK_n, fznK_c, fznF_n, fznF_c, sz0, sz1, sz2, sz3, sz4, sz5, sz6, sz7, sz8, pk1, pk2, pk3, pk4, fzL_n, fzL_c, fz_int, fz_bl, fz_str, fz_non, putD_n, putD_c, at0, at1, at2, at3, ix0, ix1, ix2, Bool.not_true, Bool.not_false, Bool.true_and, Bool.and_true, Bool.false_and, Bool.and_false, Bool.or_true, Bool.true_or, Bool.false_or, Bool.or_false, if_true, if_false, Bool.false_eq_true, decide_true, decide_false, and_self, and_true, true_and, not_true_eq_false, not_false_eq_true, ne_eq, false_and, and_false, eq_self])
local macro_rules | `(tactic| walk_at "env") => `(tactic| simp only [List.map_cons, List.map_nil, List.cons_append, List.nil_append, List.replicate_succ, List.replicate_zero])
local macro_rules | `(tactic| walk_at "ew") => `(tactic| simp -dsimp only [*, b_bo, b_b0, v_bo, v_b0, v_c, v_v, v_mv, v_vk, v_k, v_fk, v_nil, v_cons, v_1, v_2, v_L, v_bB, asB_b, v_bAnd, v_bOr, v_bNot, v_bYes, v_if, v_and, v_or, v_not, v_tup, v_lst, v_fld, asI_i, v_oN, v_oS, optI_i, v_sl, v_rg1, v_rg2, v_lrg, v_trg, chainK_b, v_chain,
  Fl.k_nx, Fl.k_rt, Fl.k_bk, Fl.k_ct, v_seq, v_pass, v_bk, v_ct, v_ret, v_retN, v_expr, v_sif, v_asg, optE_s, v_gN, v_gT, v_gsN, v_gsC, Option.bind_some, v_par, v_par3, v_aug, v_put, v_sfld, v_for, optL_s, v_iSeq, v_iOf, v_iStr, v_lc, v_mList, Rf.back_ok, optP_s, v_callF, v_call, v_aN, v_aE, v_aI, v_fN, v_fE, v_fI, optD_s, Option.map_some,
  v_kN, v_kE, v_kI, v_methE, v_methI, Rf.newB_ok, v_new, fin_rt, fin_nx, getR_s, liftK_s, R.ite_t, R.ite_f, List.getElem?_cons_zero, List.getElem?_cons_succ, List.set_cons_zero, List.set_cons_succ, List.map_cons, List.map_nil, List.cons_append, List.nil_append, List.replicate_succ, List.replicate_zero, k2_s, k3_s, insK_s, strK_s, mlK_s, optF_s, joinO_s, v_gp, v_gq, fldO_s, v_gf, setO_s, v_gs, optR_s, al_n, al_c, pi_t, pi_f, pi_n, wi_n, wi_c,
  add_i, sub_i, mod_i, div_i, pow_60, pow_18, lt_i, le_i, gt_i, ge_i, mul_i, is_n, nis_n, is_i, nis_i, is_t, nis_t, ix_t, ix_l, ix_s, set0, set1, set2, len_t, len_l, len_s, abs_i, int_i, int_b, sl_l, sl_t, fz_l, fz_t, fz_d, fz_i, seq_t, seq_l, zip_l, zip_t, enum_l, tuple_l, tuple_t, list_l, list_t, neg_i, isa_isInt_non, isa_isInt_bl, isa_isInt_int, isa_isInt_str, isa_isInt_tup, isa_isInt_lst, isa_isInt_scr, isa_isInt_dct, isa_isBool_non, isa_isBool_bl, isa_isBool_int, isa_isBool_str, isa_isBool_tup, isa_isBool_lst, isa_isBool_scr, isa_isBool_dct, isa_isStr_non, isa_isStr_bl, isa_isStr_int, isa_isStr_str, isa_isStr_tup, isa_isStr_lst, isa_isStr_scr, isa_isStr_dct, isa_isTuple_non, isa_isTuple_bl, isa_isTuple_int, isa_isTuple_str, isa_isTuple_tup, isa_isTuple_lst, isa_isTuple_scr, isa_isTuple_dct, isa_isList_non, isa_isList_bl, isa_isList_int, isa_isList_str, isa_isList_tup, isa_isList_lst, isa_isList_scr, isa_isList_dct, isa_isDict_non, isa_isDict_bl, isa_isDict_int, isa_isDict_str, isa_isDict_tup, isa_isDict_lst, isa_isDict_scr, isa_isDict_dct, eq_i, ne_i, eq_s, ne_s, fzn_1, fzn_2, fzn_3, fzn_4, fzn_5, fzn_6, fzn_7, fzn_8, fzn_9, fzn_s, fznL_n, fznL_c, fznK_n, fznK_c, fznF_n, fznF_c, sz0, sz1, sz2, sz3, sz4, sz5, sz6, sz7, sz8, pk1, pk2, pk3, pk4, fzL_n, fzL_c, fz_int, fz_bl, fz_str, fz_non, putD_n, putD_c, at0, at1, at2, at3, ix0, ix1, ix2, Bool.not_true, Bool.not_false, Bool.true_and, Bool.and_true, Bool.false_and, Bool.and_false, Bool.or_true, Bool.true_or, Bool.false_or, Bool.or_false, if_true, if_false, Bool.false_eq_true, decide_true, decide_false, and_self, and_true, true_and, not_true_eq_false, not_false_eq_true, ne_eq, false_and, and_false, eq_self, v_parN, po2, po3, po4, se_n, se_c, v_gUL, v_dnew, fi2_i, gdiv_i, gadd_i])
section
/-! ### repr by parts -/
structure Rp (n w : Nat) (d : D) : Prop where
  ex : ∃ p, toPy d = some p ∧ plainD n p = true ∧ p.showable = true ∧ wt p ≤ w
theorem rp_int {n : Nat} {i : Int} (h : i.natAbs < 2 ^ 1000) : Rp n 1 (.int i) := ⟨.int i, by rw [toPy], plain_int, show_int h, by simp only [wt]; exact Nat.le_refl _⟩
theorem Rp.repr {n w : Nat} {d : D} (h : Rp n w d) (hn : n ≤ 60) (hw : w ≤ 8000) : ∃ x, fRepr [d] = some (.str x) := by
  obtain ⟨p, h1, h2, h3, h4⟩ := h.ex
  exact ⟨_, repr_ok h1 h2 hn h3 (by omega)⟩
/-! ### loops that may return -/
/-! ### dicts of pairs, slices -/
/-! ### a value equals itself -/
mutual
theorem eqv_same : ∀ (n : Nat) (p : PyData), plainD n p = true → PyData.eqv p p = true
  | n, .none, _ => rfl
  | n, .bool b, _ => by simp [PyData.eqv]
  | n, .int i, _ => by simp [PyData.eqv]
  | n, .str x, _ => by simp [PyData.eqv]
  | 0, .list xs, h => by simp [plainD] at h
  | 0, .tuple xs, h => by simp [plainD] at h
  | n + 1, .list xs, h => by rw [PyData.eqv]; rw [plainD] at h; exact eqvAll_same n xs h
  | n + 1, .tuple xs, h => by rw [PyData.eqv]; rw [plainD] at h; exact eqvAll_same n xs h
  | n, .dict kvs, h => by cases n <;> simp [plainD] at h
theorem eqvAll_same : ∀ (n : Nat) (ps : List PyData), plainA n ps = true → PyData.eqvAll ps ps = true
  | n, [], _ => rfl
  | n, p :: ps, h => by
    rw [plainA, Bool.and_eq_true] at h
    rw [PyData.eqvAll, eqv_same n p h.1, eqvAll_same n ps h.2]
    rfl
end
end
section
/-! ### how long what is shown of a value is -/
structure Rv (n w : Nat) (d : D) : Prop where
  ex : ∃ p, toPyR d = some p ∧ p.showable = true ∧ p.depth ≤ n ∧ p.shown.length ≤ w
structure RvL (n w : Nat) (ds : List D) : Prop where
  ex : ∃ ps, toPyRL ds = some ps ∧ PyData.showableAll ps = true ∧ PyData.depthAll ps ≤ n ∧ ((PyData.shownAll ps).map (·.length)).sum ≤ ds.length * w ∧ (PyData.shownAll ps).length = ds.length
theorem Rv.mono {n w n' w' : Nat} {d : D} (h : Rv n w d) (hn : n ≤ n') (hw : w ≤ w') : Rv n' w' d := by
  obtain ⟨p, h1, h2, h3, h4⟩ := h.ex
  exact ⟨p, h1, h2, by omega, by omega⟩
theorem rvl {n w : Nat} : ∀ {ds : List D}, (∀ d ∈ ds, Rv n w d) → RvL n w ds
  | [], _ => ⟨[], by rw [toPyRL], rfl, by rw [PyData.depthAll]; omega, by rw [PyData.shownAll]; simp, by rw [PyData.shownAll]; rfl⟩
  | d :: ds, h => by
    obtain ⟨p, h1, h2, h3, h4⟩ := (h d (List.mem_cons_self ..)).ex
    obtain ⟨q, k1, k2, k3, k4, k5⟩ := (rvl fun x hx => h x (List.mem_cons_of_mem _ hx)).ex
    refine ⟨p :: q, by rw [toPyRL, h1, k1]; rfl, by simp only [PyData.showableAll, h2, k2]; rfl, by rw [PyData.depthAll]; omega, ?_, by rw [PyData.shownAll, List.length_cons, k5, List.length_cons]⟩
    rw [PyData.shownAll, List.map_cons, List.sum_cons, List.length_cons, Nat.succ_mul]
    omega
theorem rv_tup {n w : Nat} {ds : List D} (h : ∀ d ∈ ds, Rv n w d) : Rv (n + 1) (ds.length * (w + 2) + 3) (.tup ds) := by
  obtain ⟨q, k1, k2, k3, k4, k5⟩ := (rvl h).ex
  refine ⟨.tuple q, by rw [toPyR, k1]; rfl, k2, by rw [PyData.depth]; omega, ?_⟩
  have := tupleText_len_le (PyData.shownAll q)
  rw [PyData.shown]
  rw [k5] at this
  rw [Nat.mul_add]
  omega
theorem rv_lst {n w : Nat} {o : Bool} {ds : List D} (h : ∀ d ∈ ds, Rv n w d) : Rv (n + 1) (ds.length * (w + 2) + 3) (.lst o ds) := by
  obtain ⟨q, k1, k2, k3, k4, k5⟩ := (rvl h).ex
  refine ⟨.list q, by rw [toPyR, k1]; rfl, k2, by rw [PyData.depth]; omega, ?_⟩
  have := listText_len_le (PyData.shownAll q)
  rw [PyData.shown]
  rw [k5] at this
  rw [Nat.mul_add]
  omega
theorem rv_bl {n : Nat} {b : Bool} : Rv n 52 (.bl b) := ⟨.bool b, by rw [toPyR], by cases b <;> rfl, by cases b <;> exact Nat.zero_le _, by cases b <;> decide⟩
theorem int_short {i : Int} (h : i.natAbs < 1000) : (PyData.int i).shown.length ≤ 52 := by
  have k1 : ∀ n : Nat, n < 1000 → (PyData.int (n : Int)).shown.length ≤ 52 := by decide +kernel
  have k2 : ∀ n : Nat, n < 1000 → (PyData.int (-(n : Int))).shown.length ≤ 52 := by decide +kernel
  rcases Int.natAbs_eq i with e | e
  · rw [e]; exact k1 _ h
  · rw [e]; exact k2 _ h
theorem Rv.repr {n w : Nat} {d : D} (h : Rv n w d) (hn : n ≤ 60) (hw : w ≤ 16000000) : ∃ x, fReprV [d] = some (.str x) := by
  obtain ⟨p, h1, h2, h3, h4⟩ := h.ex
  have e1 : decide (p.depth ≤ 60) = true := decide_eq_true (by omega)
  have e2 : decide (p.shown.length ≤ sizeLine) = true := decide_eq_true (Nat.le_trans (Nat.le_trans h4 hw) (by decide))
  refine ⟨p.shown, ?_⟩
  have hR : fReprR [d] = if isRefR d then some (.str p.shown) else none := by
    show (match toPyR d with | some p => if (isRefR d && p.showable && decide (p.depth ≤ 60) && decide (p.shown.length ≤ sizeLine)) = true then some (D.str p.shown) else none | none => none) = _
    rw [h1]
    simp only
    rw [h2, e1, e2, Bool.and_true, Bool.and_true, Bool.and_true]
  unfold fReprV
  rw [hR]
  have hL : isRefR d = false → toPy d = some p → fRepr [d] = some (.str p.shown) := by
    intro _ ht
    show (match toPy d with | some p => if (p.showable && decide (p.depth ≤ 60) && decide (p.shown.length ≤ sizeLine)) = true then some (D.str p.shown) else none | none => none) = _
    rw [ht]
    simp only
    rw [h2, e1, e2]
    rfl
  cases d with
  | non => exact hL rfl (by rw [toPy, ← h1, toPyR])
  | bl b => exact hL rfl (by rw [toPy, ← h1, toPyR])
  | int b => exact hL rfl (by rw [toPy, ← h1, toPyR])
  | str b => exact hL rfl (by rw [toPy, ← h1, toPyR])
  | tup b => rfl
  | lst o b => rfl
  | dct o b => rfl
  | _ => simp [toPyR] at h1
end
section
/-! ### mirrors with errors are run by simp -/
section
variable {env : Env} {m n : ME} {mB : MB} {mS nS : MS} {ms : ML} {d : D} {i j : Nat} {x : Exn} {e : Env}
theorem x_bL {α β : Type} {f : α → Env → R β} : (R.ex x e : R α).bindL f () = .ex x e := nrfl rfl
theorem x_back {ios : List D} {as : List Arg} {e2 : Env} : Rf.back (.ex x ios) as e2 = optE (backA as ios e2) (fun e3 => .ex x e3) () := by
  show (match backA as ios e2 with | some e3 => R.ex x e3 | none => R.no) = _
  cases backA as ios e2 <;> rfl
theorem fin_x {io : List Bool} : fin io (.ex x env) = optR (allS (pick io env)) (fun ios => .ex x ios) () := by unfold fin optR; rfl
theorem v_clE : calmE m env = nxR (m env) := nrfl rfl
theorem v_clB : calmB mB env = nxR (mB env) := nrfl rfl
theorem v_clS : calmS mS env = nxR (mS env) := nrfl rfl
theorem nx_ok {α : Type} {a : α} : nxR (.ok a e) = .ok a e := nrfl rfl
theorem v_raise {c f : String} : sRaise c f m env = (m env).bindL (fun d e => R.ite (fzn d) (fun _ => .ex ⟨c, [(f, d)]⟩ e) (fun _ => .no) () ()) () := by
  simp only [R.bindL]
  unfold sRaise
  congr 1; funext d e; cases h : fzn d <;> rfl
def tryK (r : R Fl) (L : List String) (hs : List Hnd) : R Fl := match r with
  | .ok fl e => .ok fl e
  | .ex x e => hdF L hs x e
  | .no => .no
theorem tryK_ok {fl : Fl} {L : List String} {hs : List Hnd} : tryK (.ok fl e) L hs = .ok fl e := nrfl rfl
theorem tryK_ex {L : List String} {hs : List Hnd} : tryK (.ex x e) L hs = hdF L hs x e := nrfl rfl
theorem v_try {L : List String} {hs : List Hnd} : sTry L mS hs env = tryK (mS env) L hs := nrfl rfl
def hdM (nm : Option Nat) (ms : MS) (c : String) (fs : List (String × D)) (e : Env) : R Fl := match nm with
  | some i => (ms (e.set i (some (.exn c fs)))).bindL (fun fl e2 => .ok fl (e2.set i none)) ()
  | none => ms e
theorem hdM_s {c : String} {fs : List (String × D)} : hdM (some i) mS c fs e = (mS (e.set i (some (.exn c fs)))).bindL (fun fl e2 => .ok fl (e2.set i none)) () := nrfl rfl
theorem hdM_n {c : String} {fs : List (String × D)} : hdM none mS c fs e = mS e := nrfl rfl
theorem v_hd {L : List String} {t c : String} {fs : List (String × D)} {nm : Option Nat} {r : List Hnd} : hdF L ((t, nm, mS) :: r) ⟨c, fs⟩ e = R.ite (L.contains c) (fun _ => R.ite (isSub c t) (fun _ => hdM nm mS c fs e) (fun _ => hdF L r ⟨c, fs⟩ e) () ()) (fun _ => .no) () () := by
  rw [hdF.eq_def]
  simp only
  cases L.contains c
  · rfl
  · cases isSub c t
    · rfl
    · cases nm <;> rfl
theorem v_cb {v : D} {r : Env} : eCb v 0 (.ok d e) (some v :: r) = .ok d (some v :: r) := by
  exact if_pos rfl
theorem v_cbx {v : D} {r : Env} : eCb v 0 (.ex x e) (some v :: r) = .ex x (some v :: r) := by
  exact if_pos rfl
def asX {α : Type} (d : D) (L : List String) (f : String) (k : D → R α) (_ : Tg k) : R α := match d with | .exn c fs => R.ite (L.contains c) (fun _ => liftK (fs.lookup f) k ()) (fun _ => .no) () () | _ => .no
theorem asX_e {α : Type} {L : List String} {f c : String} {fs : List (String × D)} {k : D → R α} : asX (.exn c fs) L f k () = R.ite (L.contains c) (fun _ => liftK (fs.lookup f) k ()) (fun _ => .no) () () := nrfl rfl
theorem v_xf {L : List String} {f : String} : eXf L f m env = (m env).bindL (fun d e => asX d L f (fun r => .ok r e) ()) () := by
  simp only [R.bindL]
  unfold eXf asX; congr 1; funext d e
  cases d with
  | exn c fs =>
    simp only
    cases h : L.contains c
    · rfl
    · simp only [if_true, R.ite]
      unfold lift liftK
      cases fs.lookup f <;> rfl
  | _ => rfl
theorem v_d1 {x : Str} {k : Int} : eD1 x k env = .ok (.dct true [(.str x, .int k)]) env := nrfl rfl
theorem lk_hit {f : String} {fs : List (String × D)} : List.lookup f ((f, d) :: fs) = some d := by simp [List.lookup]
end
end
end Mi
set_option maxHeartbeats 4000000
set_option exponentiation.threshold 100000
namespace Mi
open PySem PySem.Spec PyProof.Rows L2 RZ Ov PpSet
local macro_rules | `(tactic| walk_at "ev") => `(tactic| simp -dsimp only [*, b_bo, b_b0, v_bo, v_b0, v_c, v_v, v_mv, v_vk, v_k, v_fk, v_nil, v_cons, v_1, v_2, v_L, v_bB, asB_b, v_bAnd, v_bOr, v_bNot, v_bYes, v_if, v_and, v_or, v_not, v_tup, v_lst, v_fld, asI_i, v_oN, v_oS, optI_i, v_sl, v_rg1, v_rg2, v_lrg, v_trg, chainK_b, v_chain,
  Fl.k_nx, Fl.k_rt, Fl.k_bk, Fl.k_ct, v_seq, v_pass, v_bk, v_ct, v_ret, v_retN, v_expr, v_sif, v_asg, optE_s, v_gN, v_gT, v_gsN, v_gsC, Option.bind_some, v_par, v_par3, v_aug, v_put, v_sfld, v_for, optL_s, v_iSeq, v_iOf, v_iStr, v_lc, v_mList, Rf.back_ok, optP_s, v_callF, v_call, v_aN, v_aE, v_aI, v_fN, v_fE, v_fI, optD_s, Option.map_some,
  v_kN, v_kE, v_kI, v_methE, v_methI, Rf.newB_ok, v_new, fin_rt, fin_nx, getR_s, liftK_s, R.ite_t, R.ite_f, List.getElem?_cons_zero, List.getElem?_cons_succ, List.set_cons_zero, List.set_cons_succ, List.map_cons, List.map_nil, List.cons_append, List.nil_append, List.replicate_succ, List.replicate_zero, k2_s, k3_s, insK_s, strK_s, mlK_s, optF_s, joinO_s, v_gp, v_gq, fldO_s, v_gf, setO_s, v_gs, optR_s, al_n, al_c, pi_t, pi_f, pi_n, wi_n, wi_c,
  add_i, sub_i, mod_i, div_i, pow_60, pow_18, lt_i, le_i, gt_i, ge_i, mul_i, is_n, nis_n, is_i, nis_i, is_t, nis_t, ix_t, ix_l, ix_s, set0, set1, set2, len_t, len_l, len_s, abs_i, int_i, int_b, sl_l, sl_t, fz_l, fz_t, fz_d, fz_i, seq_t, seq_l, zip_l, zip_t, enum_l, tuple_l, tuple_t, list_l, list_t, neg_i, isa_isInt_non, isa_isInt_bl, isa_isInt_int, isa_isInt_str, isa_isInt_tup, isa_isInt_lst, isa_isInt_scr, isa_isInt_dct, isa_isBool_non, isa_isBool_bl, isa_isBool_int, isa_isBool_str, isa_isBool_tup, isa_isBool_lst, isa_isBool_scr, isa_isBool_dct, isa_isStr_non, isa_isStr_bl, isa_isStr_int, isa_isStr_str, isa_isStr_tup, isa_isStr_lst, isa_isStr_scr, isa_isStr_dct, isa_isTuple_non, isa_isTuple_bl, isa_isTuple_int, isa_isTuple_str, isa_isTuple_tup, isa_isTuple_lst, isa_isTuple_scr, isa_isTuple_dct, isa_isList_non, isa_isList_bl, isa_isList_int, isa_isList_str, isa_isList_tup, isa_isList_lst, isa_isList_scr, isa_isList_dct, isa_isDict_non, isa_isDict_bl, isa_isDict_int, isa_isDict_str, isa_isDict_tup, isa_isDict_lst, isa_isDict_scr, isa_isDict_dct, eq_i, ne_i, eq_s, ne_s, fzn_1, fzn_2, fzn_3, fzn_4, fzn_5, fzn_6, fzn_7, fzn_8, fzn_9, fzn_s, fznL_n, fznL_c, fznK_n, fznK_c, fznF_n, fznF_c, sz0, sz1, sz2, sz3, sz4, sz5, sz6, sz7, sz8, pk1, pk2, pk3, pk4, fzL_n, fzL_c, fz_int, fz_bl, fz_str, fz_non, putD_n, putD_c, at0, at1, at2, at3, ix0, ix1, ix2, Bool.not_true, Bool.not_false, Bool.true_and, Bool.and_true, Bool.false_and, Bool.and_false, Bool.or_true, Bool.true_or, Bool.false_or, Bool.or_false, if_true, if_false, Bool.false_eq_true, decide_true, decide_false, and_self, and_true, true_and, not_true_eq_false, not_false_eq_true, ne_eq, false_and, and_false, eq_self])
local macro_rules | `(tactic| walk_at "env") => `(tactic| simp only [List.map_cons, List.map_nil, List.cons_append, List.nil_append, List.replicate_succ, List.replicate_zero])
local macro_rules | `(tactic| walk_at "ew") => `(tactic| simp -dsimp only [*, b_bo, b_b0, v_bo, v_b0, v_c, v_v, v_mv, v_vk, v_k, v_fk, v_nil, v_cons, v_1, v_2, v_L, v_bB, asB_b, v_bAnd, v_bOr, v_bNot, v_bYes, v_if, v_and, v_or, v_not, v_tup, v_lst, v_fld, asI_i, v_oN, v_oS, optI_i, v_sl, v_rg1, v_rg2, v_lrg, v_trg, chainK_b, v_chain,
  Fl.k_nx, Fl.k_rt, Fl.k_bk, Fl.k_ct, v_seq, v_pass, v_bk, v_ct, v_ret, v_retN, v_expr, v_sif, v_asg, optE_s, v_gN, v_gT, v_gsN, v_gsC, Option.bind_some, v_par, v_par3, v_aug, v_put, v_sfld, v_for, optL_s, v_iSeq, v_iOf, v_iStr, v_lc, v_mList, Rf.back_ok, optP_s, v_callF, v_call, v_aN, v_aE, v_aI, v_fN, v_fE, v_fI, optD_s, Option.map_some,
  v_kN, v_kE, v_kI, v_methE, v_methI, Rf.newB_ok, v_new, fin_rt, fin_nx, getR_s, liftK_s, R.ite_t, R.ite_f, List.getElem?_cons_zero, List.getElem?_cons_succ, List.set_cons_zero, List.set_cons_succ, List.map_cons, List.map_nil, List.cons_append, List.nil_append, List.replicate_succ, List.replicate_zero, k2_s, k3_s, insK_s, strK_s, mlK_s, optF_s, joinO_s, v_gp, v_gq, fldO_s, v_gf, setO_s, v_gs, optR_s, al_n, al_c, pi_t, pi_f, pi_n, wi_n, wi_c,
  add_i, sub_i, mod_i, div_i, pow_60, pow_18, lt_i, le_i, gt_i, ge_i, mul_i, is_n, nis_n, is_i, nis_i, is_t, nis_t, ix_t, ix_l, ix_s, set0, set1, set2, len_t, len_l, len_s, abs_i, int_i, int_b, sl_l, sl_t, fz_l, fz_t, fz_d, fz_i, seq_t, seq_l, zip_l, zip_t, enum_l, tuple_l, tuple_t, list_l, list_t, neg_i, isa_isInt_non, isa_isInt_bl, isa_isInt_int, isa_isInt_str, isa_isInt_tup, isa_isInt_lst, isa_isInt_scr, isa_isInt_dct, isa_isBool_non, isa_isBool_bl, isa_isBool_int, isa_isBool_str, isa_isBool_tup, isa_isBool_lst, isa_isBool_scr, isa_isBool_dct, isa_isStr_non, isa_isStr_bl, isa_isStr_int, isa_isStr_str, isa_isStr_tup, isa_isStr_lst, isa_isStr_scr, isa_isStr_dct, isa_isTuple_non, isa_isTuple_bl, isa_isTuple_int, isa_isTuple_str, isa_isTuple_tup, isa_isTuple_lst, isa_isTuple_scr, isa_isTuple_dct, isa_isList_non, isa_isList_bl, isa_isList_int, isa_isList_str, isa_isList_tup, isa_isList_lst, isa_isList_scr, isa_isList_dct, isa_isDict_non, isa_isDict_bl, isa_isDict_int, isa_isDict_str, isa_isDict_tup, isa_isDict_lst, isa_isDict_scr, isa_isDict_dct, eq_i, ne_i, eq_s, ne_s, fzn_1, fzn_2, fzn_3, fzn_4, fzn_5, fzn_6, fzn_7, fzn_8, fzn_9, fzn_s, fznL_n, fznL_c, fznK_n, fznK_c, fznF_n, fznF_c, sz0, sz1, sz2, sz3, sz4, sz5, sz6, sz7, sz8, pk1, pk2, pk3, pk4, fzL_n, fzL_c, fz_int, fz_bl, fz_str, fz_non, putD_n, putD_c, at0, at1, at2, at3, ix0, ix1, ix2, Bool.not_true, Bool.not_false, Bool.true_and, Bool.and_true, Bool.false_and, Bool.and_false, Bool.or_true, Bool.true_or, Bool.false_or, Bool.or_false, if_true, if_false, Bool.false_eq_true, decide_true, decide_false, and_self, and_true, true_and, not_true_eq_false, not_false_eq_true, ne_eq, false_and, and_false, eq_self, v_parN, po2, po3, po4, se_n, se_c, v_gUL, v_dnew, fi2_i, gdiv_i, gadd_i, x_bL, x_back, fin_x, v_clE, v_clB, v_clS, nx_ok, v_raise, tryK_ok, tryK_ex, v_try, hdM_s, hdM_n, v_hd, v_cb, v_cbx, v_xf, asX_e, v_d1, lk_hit])
section
/-! ### what may come as an argument that is checked -/
def wi (v : D) (a b : Int) : Bool := match v with
  | .int i => decide (a ≤ i) && decide (i ≤ b)
  | _ => false
theorem rv_non {n : Nat} : Rv n 52 .non := ⟨.none, by rw [toPyR], rfl, Nat.zero_le _, by decide⟩
theorem rv_int {n : Nat} {i : Int} (h : i.natAbs < 1000) : Rv n 52 (.int i) := ⟨.int i, by rw [toPyR], show_int (Nat.lt_trans h (by decide)), Nat.zero_le _, int_short h⟩
theorem rv_str {n : Nat} {x : Str} (h : (PyData.str x).shown.length ≤ 52) : Rv n 52 (.str x) := ⟨.str x, by rw [toPyR], rfl, Nat.zero_le _, h⟩
theorem reprV_of {d : D} {x : Str} (h : fRepr [d] = some (.str x)) : ∃ y, fReprV [d] = some (.str y) := by
  unfold fReprV
  cases e : fReprR [d] with
  | none => exact ⟨x, h⟩
  | some r =>
    have e : (match toPyR d with | some p => if (isRefR d && p.showable && decide (p.depth ≤ 60) && decide (p.shown.length ≤ sizeLine)) = true then some (D.str p.shown) else none | none => none) = some r := e
    split at e
    · split at e
      · cases e; exact ⟨_, rfl⟩
      · cases e
    · cases e
end
section
/-! ### steps for errors made as values -/
theorem v_mkXL {c f : String} {m : ME} {env : Env} : eMkX c f m env = (m env).bindL (fun d e => R.ite (fzn d) (fun _ => .ok (.exn c [(f, d)]) e) (fun _ => .no) () ()) () := by
  simp only [R.bindL]
  unfold eMkX
  congr 1; funext d e; cases h : fzn d <;> rfl
theorem fzn_exn {c : String} {fs : List (String × D)} : fzn (.exn c fs) = fznF fs := by rw [fzn]
theorem fz_exn {c : String} {fs : List (String × D)} : fz (.exn c fs) = .exn c (fzF fs) := by rw [fz]
theorem fzF_n : fzF [] = [] := by rw [fzF]
theorem fzF_c {f : String} {d : D} {r : List (String × D)} : fzF ((f, d) :: r) = (f, fz d) :: fzF r := by rw [fzF]
end
end Mi
set_option maxHeartbeats 4000000
set_option exponentiation.threshold 100000
namespace Mi
open PySem PySem.Spec PyProof.Rows L2 RZ Ov PpSet
local macro_rules | `(tactic| walk_at "ev") => `(tactic| simp -dsimp only [*, b_bo, b_b0, v_bo, v_b0, v_c, v_v, v_mv, v_vk, v_k, v_fk, v_nil, v_cons, v_1, v_2, v_L, v_bB, asB_b, v_bAnd, v_bOr, v_bNot, v_bYes, v_if, v_and, v_or, v_not, v_tup, v_lst, v_fld, asI_i, v_oN, v_oS, optI_i, v_sl, v_rg1, v_rg2, v_lrg, v_trg, chainK_b, v_chain,
  Fl.k_nx, Fl.k_rt, Fl.k_bk, Fl.k_ct, v_seq, v_pass, v_bk, v_ct, v_ret, v_retN, v_expr, v_sif, v_asg, optE_s, v_gN, v_gT, v_gsN, v_gsC, Option.bind_some, v_par, v_par3, v_aug, v_put, v_sfld, v_for, optL_s, v_iSeq, v_iOf, v_iStr, v_lc, v_mList, Rf.back_ok, optP_s, v_callF, v_call, v_aN, v_aE, v_aI, v_fN, v_fE, v_fI, optD_s, Option.map_some,
  v_kN, v_kE, v_kI, v_methE, v_methI, Rf.newB_ok, v_new, fin_rt, fin_nx, getR_s, liftK_s, R.ite_t, R.ite_f, List.getElem?_cons_zero, List.getElem?_cons_succ, List.set_cons_zero, List.set_cons_succ, List.map_cons, List.map_nil, List.cons_append, List.nil_append, List.replicate_succ, List.replicate_zero, k2_s, k3_s, insK_s, strK_s, mlK_s, optF_s, joinO_s, v_gp, v_gq, fldO_s, v_gf, setO_s, v_gs, optR_s, al_n, al_c, pi_t, pi_f, pi_n, wi_n, wi_c,
  add_i, sub_i, mod_i, div_i, pow_60, pow_18, lt_i, le_i, gt_i, ge_i, mul_i, is_n, nis_n, is_i, nis_i, is_t, nis_t, ix_t, ix_l, ix_s, set0, set1, set2, len_t, len_l, len_s, abs_i, int_i, int_b, sl_l, sl_t, fz_l, fz_t, fz_d, fz_i, seq_t, seq_l, zip_l, zip_t, enum_l, tuple_l, tuple_t, list_l, list_t, neg_i, isa_isInt_non, isa_isInt_bl, isa_isInt_int, isa_isInt_str, isa_isInt_tup, isa_isInt_lst, isa_isInt_scr, isa_isInt_dct, isa_isBool_non, isa_isBool_bl, isa_isBool_int, isa_isBool_str, isa_isBool_tup, isa_isBool_lst, isa_isBool_scr, isa_isBool_dct, isa_isStr_non, isa_isStr_bl, isa_isStr_int, isa_isStr_str, isa_isStr_tup, isa_isStr_lst, isa_isStr_scr, isa_isStr_dct, isa_isTuple_non, isa_isTuple_bl, isa_isTuple_int, isa_isTuple_str, isa_isTuple_tup, isa_isTuple_lst, isa_isTuple_scr, isa_isTuple_dct, isa_isList_non, isa_isList_bl, isa_isList_int, isa_isList_str, isa_isList_tup, isa_isList_lst, isa_isList_scr, isa_isList_dct, isa_isDict_non, isa_isDict_bl, isa_isDict_int, isa_isDict_str, isa_isDict_tup, isa_isDict_lst, isa_isDict_scr, isa_isDict_dct, eq_i, ne_i, eq_s, ne_s, fzn_1, fzn_2, fzn_3, fzn_4, fzn_5, fzn_6, fzn_7, fzn_8, fzn_9, fzn_s, fznL_n, fznL_c, fznK_n, fznK_c, fznF_n, fznF_c, sz0, sz1, sz2, sz3, sz4, sz5, sz6, sz7, sz8, pk1, pk2, pk3, pk4, fzL_n, fzL_c, fz_int, fz_bl, fz_str, fz_non, putD_n, putD_c, at0, at1, at2, at3, ix0, ix1, ix2, Bool.not_true, Bool.not_false, Bool.true_and, Bool.and_true, Bool.false_and, Bool.and_false, Bool.or_true, Bool.true_or, Bool.false_or, Bool.or_false, if_true, if_false, Bool.false_eq_true, decide_true, decide_false, and_self, and_true, true_and, not_true_eq_false, not_false_eq_true, ne_eq, false_and, and_false, eq_self])
local macro_rules | `(tactic| walk_at "env") => `(tactic| simp only [List.map_cons, List.map_nil, List.cons_append, List.nil_append, List.replicate_succ, List.replicate_zero])
local macro_rules | `(tactic| walk_at "ew") => `(tactic| simp -dsimp only [*, b_bo, b_b0, v_bo, v_b0, v_c, v_v, v_mv, v_vk, v_k, v_fk, v_nil, v_cons, v_1, v_2, v_L, v_bB, asB_b, v_bAnd, v_bOr, v_bNot, v_bYes, v_if, v_and, v_or, v_not, v_tup, v_lst, v_fld, asI_i, v_oN, v_oS, optI_i, v_sl, v_rg1, v_rg2, v_lrg, v_trg, chainK_b, v_chain,
  Fl.k_nx, Fl.k_rt, Fl.k_bk, Fl.k_ct, v_seq, v_pass, v_bk, v_ct, v_ret, v_retN, v_expr, v_sif, v_asg, optE_s, v_gN, v_gT, v_gsN, v_gsC, Option.bind_some, v_par, v_par3, v_aug, v_put, v_sfld, v_for, optL_s, v_iSeq, v_iOf, v_iStr, v_lc, v_mList, Rf.back_ok, optP_s, v_callF, v_call, v_aN, v_aE, v_aI, v_fN, v_fE, v_fI, optD_s, Option.map_some,
  v_kN, v_kE, v_kI, v_methE, v_methI, Rf.newB_ok, v_new, fin_rt, fin_nx, getR_s, liftK_s, R.ite_t, R.ite_f, List.getElem?_cons_zero, List.getElem?_cons_succ, List.set_cons_zero, List.set_cons_succ, List.map_cons, List.map_nil, List.cons_append, List.nil_append, List.replicate_succ, List.replicate_zero, k2_s, k3_s, insK_s, strK_s, mlK_s, optF_s, joinO_s, v_gp, v_gq, fldO_s, v_gf, setO_s, v_gs, optR_s, al_n, al_c, pi_t, pi_f, pi_n, wi_n, wi_c,
  add_i, sub_i, mod_i, div_i, pow_60, pow_18, lt_i, le_i, gt_i, ge_i, mul_i, is_n, nis_n, is_i, nis_i, is_t, nis_t, ix_t, ix_l, ix_s, set0, set1, set2, len_t, len_l, len_s, abs_i, int_i, int_b, sl_l, sl_t, fz_l, fz_t, fz_d, fz_i, seq_t, seq_l, zip_l, zip_t, enum_l, tuple_l, tuple_t, list_l, list_t, neg_i, isa_isInt_non, isa_isInt_bl, isa_isInt_int, isa_isInt_str, isa_isInt_tup, isa_isInt_lst, isa_isInt_scr, isa_isInt_dct, isa_isBool_non, isa_isBool_bl, isa_isBool_int, isa_isBool_str, isa_isBool_tup, isa_isBool_lst, isa_isBool_scr, isa_isBool_dct, isa_isStr_non, isa_isStr_bl, isa_isStr_int, isa_isStr_str, isa_isStr_tup, isa_isStr_lst, isa_isStr_scr, isa_isStr_dct, isa_isTuple_non, isa_isTuple_bl, isa_isTuple_int, isa_isTuple_str, isa_isTuple_tup, isa_isTuple_lst, isa_isTuple_scr, isa_isTuple_dct, isa_isList_non, isa_isList_bl, isa_isList_int, isa_isList_str, isa_isList_tup, isa_isList_lst, isa_isList_scr, isa_isList_dct, isa_isDict_non, isa_isDict_bl, isa_isDict_int, isa_isDict_str, isa_isDict_tup, isa_isDict_lst, isa_isDict_scr, isa_isDict_dct, eq_i, ne_i, eq_s, ne_s, fzn_1, fzn_2, fzn_3, fzn_4, fzn_5, fzn_6, fzn_7, fzn_8, fzn_9, fzn_s, fznL_n, fznL_c, fznK_n, fznK_c, fznF_n, fznF_c, sz0, sz1, sz2, sz3, sz4, sz5, sz6, sz7, sz8, pk1, pk2, pk3, pk4, fzL_n, fzL_c, fz_int, fz_bl, fz_str, fz_non, putD_n, putD_c, at0, at1, at2, at3, ix0, ix1, ix2, Bool.not_true, Bool.not_false, Bool.true_and, Bool.and_true, Bool.false_and, Bool.and_false, Bool.or_true, Bool.true_or, Bool.false_or, Bool.or_false, if_true, if_false, Bool.false_eq_true, decide_true, decide_false, and_self, and_true, true_and, not_true_eq_false, not_false_eq_true, ne_eq, false_and, and_false, eq_self, v_parN, po2, po3, po4, se_n, se_c, v_gUL, v_dnew, fi2_i, gdiv_i, gadd_i, x_bL, x_back, fin_x, v_clE, v_clB, v_clS, nx_ok, v_raise, tryK_ok, tryK_ex, v_try, hdM_s, hdM_n, v_hd, v_cb, v_cbx, v_xf, asX_e, v_d1, lk_hit, v_mkXL, v_mkN, fzn_exn, fz_exn, fzF_n, fzF_c])
section
/-! ### errors made as values, their classes and fields -/
abbrev LL20 : List String := ["CommandError", "InvalidCode", "InvalidCountdowns", "InvalidEntries", "InvalidEntry", "InvalidInstructionSet", "InvalidLengths", "InvalidNumber", "InvalidOffset", "InvalidProgram", "InvalidTimes", "NothingToUndo", "ParseError", "TooLong", "TooManyStates", "OverlapError"]
def nm20 (i : Nat) : String := LL20[i]?.getD ""
def er20 (v : D) (i : Nat) : D := .exn (nm20 i) (if i = 11 then [] else [((["line", "value", "value", "value", "value", "field", "value", "value", "value", "value", "value", "", "line", "size", "count"] : List String)[i]?.getD "", v)])
def rowB (i : Nat) : List D := (List.range 15).map fun (j : Nat) => .bl (decide (i = j))
theorem sub20 : ∀ i < 16, ∀ j < 15, isSub (nm20 i) (nm20 j) = decide (i = j) := by decide +kernel
theorem has20 : ∀ i < 16, LL20.contains (nm20 i) = true := by decide +kernel
theorem isx20 {c : String} {fs : List (String × D)} {i j : Nat} {t : String} (hi : i < 16) (hc : c = nm20 i) (hj : j < 15) (ht : t = nm20 j) : fIsX LL20 [t] (.exn c fs) = some (.bl (decide (i = j))) := by
  subst hc ht
  show (if LL20.contains (nm20 i) then some (D.bl ((isSub (nm20 i) (nm20 j)) || false)) else none) = _
  rw [has20 i hi, sub20 i hi j hj, Bool.or_false]
  rfl
theorem row_len {o p : Bool} {xs ys : List D} (h : xs.length + ys.length ≤ 100) (z1 : fznL xs = true) (z2 : fznL ys = true) : fAdd (.lst o xs) (.lst p ys) = some (.lst true (xs ++ ys)) := by
  have : xs.length + ys.length ≤ sizeLine := Nat.le_trans h (by decide)
  unfold fAdd; simp [this, z1, z2]
theorem kinds20 {c : String} {fs : List (String × D)} {i : Nat} (hi : i < 16) (hc : c = nm20 i) : m_l_kinds [.exn c fs] = .ok (.lst true (rowB i)) [] := by
  have i0 := isx20 (fs := fs) (t := "CommandError") hi hc (by decide : 0 < 15) (by decide)
  have i1 := isx20 (fs := fs) (t := "InvalidCode") hi hc (by decide : 1 < 15) (by decide)
  have i2 := isx20 (fs := fs) (t := "InvalidCountdowns") hi hc (by decide : 2 < 15) (by decide)
  have i3 := isx20 (fs := fs) (t := "InvalidEntries") hi hc (by decide : 3 < 15) (by decide)
  have i4 := isx20 (fs := fs) (t := "InvalidEntry") hi hc (by decide : 4 < 15) (by decide)
  have i5 := isx20 (fs := fs) (t := "InvalidInstructionSet") hi hc (by decide : 5 < 15) (by decide)
  have i6 := isx20 (fs := fs) (t := "InvalidLengths") hi hc (by decide : 6 < 15) (by decide)
  have i7 := isx20 (fs := fs) (t := "InvalidNumber") hi hc (by decide : 7 < 15) (by decide)
  have i8 := isx20 (fs := fs) (t := "InvalidOffset") hi hc (by decide : 8 < 15) (by decide)
  have i9 := isx20 (fs := fs) (t := "InvalidProgram") hi hc (by decide : 9 < 15) (by decide)
  have i10 := isx20 (fs := fs) (t := "InvalidTimes") hi hc (by decide : 10 < 15) (by decide)
  have i11 := isx20 (fs := fs) (t := "NothingToUndo") hi hc (by decide : 11 < 15) (by decide)
  have i12 := isx20 (fs := fs) (t := "ParseError") hi hc (by decide : 12 < 15) (by decide)
  have i13 := isx20 (fs := fs) (t := "TooLong") hi hc (by decide : 13 < 15) (by decide)
  have i14 := isx20 (fs := fs) (t := "TooManyStates") hi hc (by decide : 14 < 15) (by decide)
  have e : rowB i = [.bl (decide (i = 0)), .bl (decide (i = 1)), .bl (decide (i = 2)), .bl (decide (i = 3)), .bl (decide (i = 4)), .bl (decide (i = 5)), .bl (decide (i = 6)), .bl (decide (i = 7)), .bl (decide (i = 8)), .bl (decide (i = 9)), .bl (decide (i = 10)), .bl (decide (i = 11)), .bl (decide (i = 12)), .bl (decide (i = 13)), .bl (decide (i = 14))] := rfl
  rw [e]
  generalize (decide (i = 0)) = b0 at *
  generalize (decide (i = 1)) = b1 at *
  generalize (decide (i = 2)) = b2 at *
  generalize (decide (i = 3)) = b3 at *
  generalize (decide (i = 4)) = b4 at *
  generalize (decide (i = 5)) = b5 at *
  generalize (decide (i = 6)) = b6 at *
  generalize (decide (i = 7)) = b7 at *
  generalize (decide (i = 8)) = b8 at *
  generalize (decide (i = 9)) = b9 at *
  generalize (decide (i = 10)) = b10 at *
  generalize (decide (i = 11)) = b11 at *
  generalize (decide (i = 12)) = b12 at *
  generalize (decide (i = 13)) = b13 at *
  generalize (decide (i = 14)) = b14 at *
  clear e hi hc
  unfold m_l_kinds b_l_kinds
  rw [v_fn]
  walk_at "env"
  have s1 := row_len (o := false) (p := true) (xs := [.bl b0, .bl b1, .bl b2]) (ys := [.bl b3, .bl b4]) (by simp) rfl rfl
  have s2 := row_len (o := false) (p := true) (xs := [.bl b0, .bl b1, .bl b2, .bl b3, .bl b4]) (ys := [.bl b5, .bl b6]) (by simp) rfl rfl
  have s3 := row_len (o := false) (p := true) (xs := [.bl b0, .bl b1, .bl b2, .bl b3, .bl b4, .bl b5, .bl b6]) (ys := [.bl b7, .bl b8]) (by simp) rfl rfl
  have s4 := row_len (o := false) (p := true) (xs := [.bl b0, .bl b1, .bl b2, .bl b3, .bl b4, .bl b5, .bl b6, .bl b7, .bl b8]) (ys := [.bl b9]) (by simp) rfl rfl
  have s5 := row_len (o := false) (p := true) (xs := [.bl b0, .bl b1, .bl b2, .bl b3, .bl b4, .bl b5, .bl b6, .bl b7, .bl b8, .bl b9]) (ys := [.bl b10, .bl b11, .bl b12]) (by simp) rfl rfl
  have s6 := row_len (o := false) (p := true) (xs := [.bl b0, .bl b1, .bl b2, .bl b3, .bl b4, .bl b5, .bl b6, .bl b7, .bl b8, .bl b9, .bl b10, .bl b11, .bl b12]) (ys := [.bl b13, .bl b14]) (by simp) rfl rfl
  walk_at "ew"
def prs20 (v : D) : List D := (List.range 15).map fun i => .lst false [er20 v i, v]
abbrev pr1 (c f : String) (v : D) : D := .lst true [.exn c [(f, v)], v]
theorem app20 {l : List D} {d : D} (h : l.length ≤ 1000) : fAppend l [d] = some (.non, l ++ [d]) := if_pos (Nat.lt_of_le_of_lt h (by decide))
theorem lbA {v : D} {c : String} {w : Option D} {xs : List D} (z : fzn v = true) (f : fz v = v) (h : LL20.contains c = true) (hx : xs.length ≤ 1000) : lb_l_made_2 [some v, some (.exn c [("value", v)]), some (.lst true xs), w] = .ok .nx [some v, some (.exn c [("value", v)]), some (.lst true (xs ++ [pr1 c "value" v])), w] := by
  have ha := app20 (d := pr1 c "value" v) hx
  have hl : ([("value", v)] : List (String × D)).lookup "value" = some v := rfl
  unfold lb_l_made_2
  clear hx
  walk_at "ew"
theorem lbB {v : D} {c : String} {w : Option D} {xs : List D} (z : fzn v = true) (f : fz v = v) (h : LL20.contains c = true) (hx : xs.length ≤ 1000) : lb_l_made_1 [some v, some (.exn c [("value", v)]), some (.lst true xs), w] = .ok .nx [some v, some (.exn c [("value", v)]), some (.lst true (xs ++ [pr1 c "value" v])), w] := lbA z f h hx
theorem made20 {v : D} (z : fzn v = true) (f : fz v = v) : m_l_made [v] = .ok (.lst true (prs20 v)) [] := by
  have h0 : LL20.contains "CommandError" = true := by decide
  have h1 : LL20.contains "InvalidCode" = true := by decide
  have h2 : LL20.contains "InvalidCountdowns" = true := by decide
  have h3 : LL20.contains "InvalidEntries" = true := by decide
  have h4 : LL20.contains "InvalidEntry" = true := by decide
  have h5 : LL20.contains "InvalidInstructionSet" = true := by decide
  have h6 : LL20.contains "InvalidLengths" = true := by decide
  have h7 : LL20.contains "InvalidNumber" = true := by decide
  have h8 : LL20.contains "InvalidOffset" = true := by decide
  have h9 : LL20.contains "InvalidProgram" = true := by decide
  have h10 : LL20.contains "InvalidTimes" = true := by decide
  have h12 : LL20.contains "ParseError" = true := by decide
  have h13 : LL20.contains "TooLong" = true := by decide
  have h14 : LL20.contains "TooManyStates" = true := by decide
  have k : ∀ {g : String}, ([(g, v)] : List (String × D)).lookup g = some v := fun {g} => by simp [List.lookup]
  have a1 := app20 (l := []) (d := pr1 "CommandError" "line" v) (by simp)
  have a5 := app20 (l := [pr1 "CommandError" "line" v, pr1 "InvalidCode" "value" v, pr1 "InvalidCountdowns" "value" v, pr1 "InvalidEntries" "value" v, pr1 "InvalidEntry" "value" v]) (d := pr1 "InvalidInstructionSet" "field" v) (by simp)
  have g1 : ∀ {d x y w : D} {q : Option D}, gN 1 d [some x, some y, some w, q] = some [some x, some d, some w, q] := fun {_ _ _ _ _} => rfl
  unfold m_l_made b_l_made
  rw [v_fn]
  walk_at "env"
  refine fin_seq (e := [some v, some (.exn "CommandError" [("line", v)]), none, none]) (by walk_at "ew") ?_
  refine fin_seq (e := [some v, some (.exn "CommandError" [("line", v)]), some (.lst true [pr1 "CommandError" "line" v]), none]) (by walk_at "ew") ?_
  refine fin_seq (e := [some v, some (.exn "InvalidEntry" [("value", v)]), some (.lst true [pr1 "CommandError" "line" v, pr1 "InvalidCode" "value" v, pr1 "InvalidCountdowns" "value" v, pr1 "InvalidEntries" "value" v, pr1 "InvalidEntry" "value" v]), none]) (by
    have it : (iSeq (eTup (lCons (eMkX "InvalidCode" "value" (eVk 0)) (lCons (eMkX "InvalidCountdowns" "value" (eVk 0)) (lCons (eMkX "InvalidEntries" "value" (eVk 0)) (lCons (eMkX "InvalidEntry" "value" (eVk 0)) lNil)))))) [some v, some (.exn "CommandError" [("line", v)]), some (.lst true [pr1 "CommandError" "line" v]), none] = .ok [.exn "InvalidCode" [("value", v)], .exn "InvalidCountdowns" [("value", v)], .exn "InvalidEntries" [("value", v)], .exn "InvalidEntry" [("value", v)]] [some v, some (.exn "CommandError" [("line", v)]), some (.lst true [pr1 "CommandError" "line" v]), none] := by clear g1; walk_at "ew"
    unfold lp_l_made_2
    rw [v_for, it, b_bo, for_cons g1 (lbA z f h1 (by simp)), for_cons g1 (lbA z f h2 (by simp)), for_cons g1 (lbA z f h3 (by simp)), for_cons g1 (lbA z f h4 (by simp)), for_nil]
    rfl) ?_
  refine fin_seq (e := [some v, some (.exn "InvalidInstructionSet" [("field", v)]), some (.lst true [pr1 "CommandError" "line" v, pr1 "InvalidCode" "value" v, pr1 "InvalidCountdowns" "value" v, pr1 "InvalidEntries" "value" v, pr1 "InvalidEntry" "value" v]), none]) (by clear g1; walk_at "ew") ?_
  refine fin_seq (e := [some v, some (.exn "InvalidInstructionSet" [("field", v)]), some (.lst true [pr1 "CommandError" "line" v, pr1 "InvalidCode" "value" v, pr1 "InvalidCountdowns" "value" v, pr1 "InvalidEntries" "value" v, pr1 "InvalidEntry" "value" v, pr1 "InvalidInstructionSet" "field" v]), none]) (by clear g1; walk_at "ew") ?_
  refine fin_seq (e := [some v, some (.exn "InvalidProgram" [("value", v)]), some (.lst true [pr1 "CommandError" "line" v, pr1 "InvalidCode" "value" v, pr1 "InvalidCountdowns" "value" v, pr1 "InvalidEntries" "value" v, pr1 "InvalidEntry" "value" v, pr1 "InvalidInstructionSet" "field" v, pr1 "InvalidLengths" "value" v, pr1 "InvalidNumber" "value" v, pr1 "InvalidOffset" "value" v, pr1 "InvalidProgram" "value" v]), none]) (by
    have it : (iSeq (eTup (lCons (eMkX "InvalidLengths" "value" (eVk 0)) (lCons (eMkX "InvalidNumber" "value" (eVk 0)) (lCons (eMkX "InvalidOffset" "value" (eVk 0)) (lCons (eMkX "InvalidProgram" "value" (eVk 0)) lNil)))))) [some v, some (.exn "InvalidInstructionSet" [("field", v)]), some (.lst true [pr1 "CommandError" "line" v, pr1 "InvalidCode" "value" v, pr1 "InvalidCountdowns" "value" v, pr1 "InvalidEntries" "value" v, pr1 "InvalidEntry" "value" v, pr1 "InvalidInstructionSet" "field" v]), none] = .ok [.exn "InvalidLengths" [("value", v)], .exn "InvalidNumber" [("value", v)], .exn "InvalidOffset" [("value", v)], .exn "InvalidProgram" [("value", v)]] [some v, some (.exn "InvalidInstructionSet" [("field", v)]), some (.lst true [pr1 "CommandError" "line" v, pr1 "InvalidCode" "value" v, pr1 "InvalidCountdowns" "value" v, pr1 "InvalidEntries" "value" v, pr1 "InvalidEntry" "value" v, pr1 "InvalidInstructionSet" "field" v]), none] := by clear g1; walk_at "ew"
    unfold lp_l_made_1
    rw [v_for, it, b_bo, for_cons g1 (lbB z f h6 (by simp)), for_cons g1 (lbB z f h7 (by simp)), for_cons g1 (lbB z f h8 (by simp)), for_cons g1 (lbB z f h9 (by simp)), for_nil]
    rfl) ?_
  refine fin_seq (e := [some v, some (.exn "InvalidTimes" [("value", v)]), some (.lst true [pr1 "CommandError" "line" v, pr1 "InvalidCode" "value" v, pr1 "InvalidCountdowns" "value" v, pr1 "InvalidEntries" "value" v, pr1 "InvalidEntry" "value" v, pr1 "InvalidInstructionSet" "field" v, pr1 "InvalidLengths" "value" v, pr1 "InvalidNumber" "value" v, pr1 "InvalidOffset" "value" v, pr1 "InvalidProgram" "value" v]), some (.exn "ParseError" [("line", v)])]) (by clear g1; walk_at "ew") ?_
  have ex : fExtend [pr1 "CommandError" "line" v, pr1 "InvalidCode" "value" v, pr1 "InvalidCountdowns" "value" v, pr1 "InvalidEntries" "value" v, pr1 "InvalidEntry" "value" v, pr1 "InvalidInstructionSet" "field" v, pr1 "InvalidLengths" "value" v, pr1 "InvalidNumber" "value" v, pr1 "InvalidOffset" "value" v, pr1 "InvalidProgram" "value" v] [.lst false [.lst false [.exn "InvalidTimes" [("value", v)], v], .lst false [.exn "NothingToUndo" [], v], .lst false [.exn "ParseError" [("line", v)], v]]] = some (.non, [pr1 "CommandError" "line" v, pr1 "InvalidCode" "value" v, pr1 "InvalidCountdowns" "value" v, pr1 "InvalidEntries" "value" v, pr1 "InvalidEntry" "value" v, pr1 "InvalidInstructionSet" "field" v, pr1 "InvalidLengths" "value" v, pr1 "InvalidNumber" "value" v, pr1 "InvalidOffset" "value" v, pr1 "InvalidProgram" "value" v] ++ [.lst false [.exn "InvalidTimes" [("value", v)], v], .lst false [.exn "NothingToUndo" [], v], .lst false [.exn "ParseError" [("line", v)], v]]) := if_pos ⟨Nat.le_trans (by simp : _ ≤ 100) (by decide), by simp only [fznL_c, fznL_n, fzn_6, fzn_exn, fznF_c, fznF_n, z, Bool.and_true, Bool.not_false]⟩
  refine fin_seq (e := [some v, some (.exn "InvalidTimes" [("value", v)]), some (.lst true ([pr1 "CommandError" "line" v, pr1 "InvalidCode" "value" v, pr1 "InvalidCountdowns" "value" v, pr1 "InvalidEntries" "value" v, pr1 "InvalidEntry" "value" v, pr1 "InvalidInstructionSet" "field" v, pr1 "InvalidLengths" "value" v, pr1 "InvalidNumber" "value" v, pr1 "InvalidOffset" "value" v, pr1 "InvalidProgram" "value" v] ++ [.lst false [.exn "InvalidTimes" [("value", v)], v], .lst false [.exn "NothingToUndo" [], v], .lst false [.exn "ParseError" [("line", v)], v]])), some (.exn "ParseError" [("line", v)])]) (by clear g1; walk_at "ew") ?_
  refine fin_seq (e := [some v, some (.exn "TooLong" [("size", v)]), some (.lst true ([pr1 "CommandError" "line" v, pr1 "InvalidCode" "value" v, pr1 "InvalidCountdowns" "value" v, pr1 "InvalidEntries" "value" v, pr1 "InvalidEntry" "value" v, pr1 "InvalidInstructionSet" "field" v, pr1 "InvalidLengths" "value" v, pr1 "InvalidNumber" "value" v, pr1 "InvalidOffset" "value" v, pr1 "InvalidProgram" "value" v] ++ [.lst false [.exn "InvalidTimes" [("value", v)], v], .lst false [.exn "NothingToUndo" [], v], .lst false [.exn "ParseError" [("line", v)], v]])), some (.exn "TooManyStates" [("count", v)])]) (by clear g1 ex; walk_at "ew") ?_
  have ad : fAdd (.lst false [.lst false [.exn "CommandError" [("line", v)], v], .lst false [.exn "InvalidCode" [("value", v)], v], .lst false [.exn "InvalidCountdowns" [("value", v)], v], .lst false [.exn "InvalidEntries" [("value", v)], v], .lst false [.exn "InvalidEntry" [("value", v)], v], .lst false [.exn "InvalidInstructionSet" [("field", v)], v], .lst false [.exn "InvalidLengths" [("value", v)], v], .lst false [.exn "InvalidNumber" [("value", v)], v], .lst false [.exn "InvalidOffset" [("value", v)], v], .lst false [.exn "InvalidProgram" [("value", v)], v], .lst false [.exn "InvalidTimes" [("value", v)], v], .lst false [.exn "NothingToUndo" [], v], .lst false [.exn "ParseError" [("line", v)], v]]) (.lst false [.lst false [.exn "TooLong" [("size", v)], v], .lst false [.exn "TooManyStates" [("count", v)], v]]) = some (.lst true (prs20 v)) := by
    exact row_len (o := false) (p := false) (by simp) (by simp only [fznL_c, fznL_n, fzn_6, fzn_exn, fznF_c, fznF_n, z, Bool.and_true, Bool.not_false]) (by simp only [fznL_c, fznL_n, fzn_6, fzn_exn, fznF_c, fznF_n, z, Bool.and_true, Bool.not_false])
  clear g1 ex
  walk_at "ew"
end
section
theorem ne_ll20 {o o' : Bool} {X : List D} {ps : List PyData} {n : Nat} (h : toPyL X = some ps) (hp : plainA n ps = true) (hn : n + 1 ≤ 60) : fNe2 (.lst o X) (.lst o' X) = some (.bl false) := by
  have hd : plainD (n + 1) (.list ps) = true := by rw [plainD]; exact hp
  show fNe (.lst _ _) (.lst _ _) = _
  unfold fNe eqP
  rw [toPy, toPy, h]
  have e1 : SeqAt.shaped (.list ps) = true := shaped_of hd (by omega)
  show ((if (SeqAt.shaped (.list ps) && SeqAt.shaped (.list ps)) = true then some (PyData.eqv (.list ps) (.list ps)) else none).map fun b => D.bl (!b)) = _
  rw [e1, eqv_same _ _ hd]
  rfl
theorem ne_row {o o' : Bool} {i : Nat} : fNe2 (.lst o (rowB i)) (.lst o' (rowB i)) = some (.bl false) :=
  ne_ll20 (n := 1) (ps := (List.range 15).map fun (j : Nat) => .bool (decide (i = j))) (toPyL_map fun _ _ => by rw [toPy]) (plainA_map fun _ _ => by first | rfl | (rw [plainD])) (by decide)
theorem over20 {c : String} {fs : List (String × D)} {i : Nat} (hi : i < 16) (hc : c = nm20 i) : fIsX LL20 ["OverlapError"] (.exn c fs) = some (.bl true) ∧ fIsX LL20 ["ValueError"] (.exn c fs) = some (.bl true) := by
  subst hc
  have h1 : ∀ i < 16, isSub (nm20 i) "OverlapError" = true := by decide +kernel
  have h2 : ∀ i < 16, isSub (nm20 i) "ValueError" = true := by decide +kernel
  constructor
  · show (if LL20.contains (nm20 i) then some (D.bl ((isSub (nm20 i) "OverlapError") || false)) else none) = _
    rw [has20 i hi, h1 i hi]; rfl
  · show (if LL20.contains (nm20 i) then some (D.bl ((isSub (nm20 i) "ValueError") || false)) else none) = _
    rw [has20 i hi, h2 i hi]; rfl
theorem fNe2_self20 {x : Str} : fNe2 (.str x) (.str x) = some (.bl false) := by
  show some (D.bl (!decide (x = x))) = _
  rw [decide_eq_true rfl]; rfl
theorem ends20 {S k b v x6 x7 x8 : Option D} {vd : D} {i : Nat} {r : Str} (hi : i < 15) (hv : v = some vd) (z : fzn vd = true) (f : fz vd = vd) (hr : fReprV [vd] = some (.str r)) :
    ∃ e', (lb_law_k20_1 [S, k, b, v, some (.int (i : Int)), some (.lst false [er20 vd i, vd]), x6, x7, x8] = .ok .nx e' ∨ lb_law_k20_1 [S, k, b, v, some (.int (i : Int)), some (.lst false [er20 vd i, vd]), x6, x7, x8] = .ok .ct e') ∧ ∃ y4 y5 y6 y7 y8, e' = [S, k, b, v, y4, y5, y6, y7, y8] := by
  subst hv
  have hk := kinds20 (fs := if i = 11 then [] else [((["line", "value", "value", "value", "value", "field", "value", "value", "value", "value", "value", "", "line", "size", "count"] : List String)[i]?.getD "", vd)]) (i := i) (by omega) rfl
  obtain ⟨ho, hve⟩ := over20 (fs := if i = 11 then [] else [((["line", "value", "value", "value", "value", "field", "value", "value", "value", "value", "value", "", "line", "size", "count"] : List String)[i]?.getD "", vd)]) (i := i) (by omega) rfl
  have hz : fzn (er20 vd i) = true := by unfold er20; rw [fzn_exn]; split <;> simp [fznF_c, fznF_n, z]
  have hf : fz (er20 vd i) = er20 vd i := by unfold er20; rw [fz_exn]; split <;> simp [fzF_c, fzF_n, f]
  change m_l_kinds [er20 vd i] = _ at hk
  change fIsX _ _ (er20 vd i) = _ at ho
  change fIsX _ _ (er20 vd i) = _ at hve
  generalize er20 vd i = E at *
  have hcp : cp_law_k20_1 [S, k, b, some vd, some (.int (i : Int)), some (.lst false [E, vd]), some E, some vd, x8] = .ok (.lst true (rowB i)) [S, k, b, some vd, some (.int (i : Int)), some (.lst false [E, vd]), some E, some vd, none] := by
    unfold cp_law_k20_1 rowB
    refine eLc_map (List.range 15) (fun q : Nat => .int (q : Int)) _ (e := [S, k, b, some vd, some (.int (i : Int)), some (.lst false [E, vd]), some E, some vd, x8]) ?_ rfl (by rw [List.length_range]; decide) fun q hq => ⟨[S, k, b, some vd, some (.int (i : Int)), some (.lst false [E, vd]), some E, some vd, some (.int q)], rfl, ?_, rfl⟩
    · have : rng1 [.int 15] = some ((List.range 15).map fun k : Nat => .int (k : Int)) := rng1_n (j := 15) (by decide)
      clear hk ho hve hr hi
      walk_at "ew"
    · have e : decide (i = q) = decide ((i : Int) = (q : Int)) := decide_eq_decide.mpr (by omega)
      rw [e]
      unfold ce_law_k20_1
      clear hk ho hve hr e hq hi
      walk_at "ew"
  have hn := @ne_row true true i
  have hs := @fNe2_self20 r
  clear hi
  refine ⟨[S, k, b, some vd, some (.int (i : Int)), some (.lst false [E, vd]), some E, some vd, none], .inl ?_, ⟨_, _, _, _, _, rfl⟩⟩
  unfold lb_law_k20_1
  walk_at "ew"
end
section
structure Vk (v : D) : Prop where
  z : fzn v = true
  f : fz v = v
  r : ∃ r, fReprV [v] = some (.str r)
theorem zip20 {v : D} : enumD [.lst false (prs20 v)] = some ((List.range 15).map fun (i : Nat) => .tup [.int (i : Int), .lst false [er20 v i, v]]) := by
  show some _ = some _
  congr 1
theorem fzL_prs {v : D} (f : fz v = v) : fzL (prs20 v) = prs20 v := by
  have e : ∀ i, fz (er20 v i) = er20 v i := fun i => by unfold er20; rw [fz_exn]; split <;> simp [fzF_c, fzF_n, f]
  have h : ∀ l : List Nat, fzL (l.map fun i => D.lst false [er20 v i, v]) = l.map fun i => D.lst false [er20 v i, v] := by
    intro l
    induction l with
    | nil => rw [List.map_nil, fzL]
    | cons a l ih => rw [List.map_cons, fzL, ih, fz_l, fzL_c, fzL_c, fzL_n, e, f]
  exact h _
theorem fznL_prs {v : D} (z : fzn v = true) : fznL (prs20 v) = true := fznL_map fun i _ => by
  have e : fzn (er20 v i) = true := by unfold er20; rw [fzn_exn]; split <;> simp [fznF_c, fznF_n, z]
  rw [fzn_6, fznL_c, fznL_c, fznL_n, e, z]
  rfl
theorem loop20 {S k b x4 x5 x6 x7 x8 : Option D} {v : D} (h : Vk v) : ∃ y4 y5 y6 y7 y8, lp_law_k20_1 [S, k, b, some v, x4, x5, x6, x7, x8] = .ok .nx [S, k, b, some v, y4, y5, y6, y7, y8] := by
  obtain ⟨z, f, r, hr⟩ := h
  have it : (iOf enumD (lCons (eFk (eCall m_l_made [.e (eVk 3)])) lNil)) [S, k, b, some v, x4, x5, x6, x7, x8] = .ok ((List.range 15).map fun (i : Nat) => .tup [.int (i : Int), .lst false [er20 v i, v]]) [S, k, b, some v, x4, x5, x6, x7, x8] := by
    have hm := made20 z f
    have h1 := fzL_prs f
    have h2 := fznL_prs z
    have h3 := @zip20 v
    generalize prs20 v = P at *
    clear hr
    walk_at "ew"
  obtain ⟨e', h1, y4, y5, y6, y7, y8, rfl⟩ := for_inv (g := gT (gsCons (gN 4) (gsCons (gN 5) gsNil))) (m := lb_law_k20_1) ((List.range 15).map fun (i : Nat) => .tup [.int (i : Int), .lst false [er20 v i, v]])
    (fun _ e => ∃ y4 y5 y6 y7 y8, e = [S, k, b, some v, y4, y5, y6, y7, y8]) (fun i d env hd hi => by
      obtain ⟨y4, y5, y6, y7, y8, rfl⟩ := hi
      rw [List.getElem?_map] at hd
      by_cases h : i < 15
      · rw [List.getElem?_range h] at hd
        obtain rfl := Option.some.inj hd
        obtain ⟨e', h1, h2⟩ := ends20 (S := S) (k := k) (b := b) (v := some v) (x6 := y6) (x7 := y7) (x8 := y8) h rfl z f hr
        exact ⟨[S, k, b, some v, some (.int (i : Int)), some (.lst false [er20 v i, v]), y6, y7, y8], e', rfl, h1, h2⟩
      · rw [List.getElem?_eq_none (by rw [List.length_range]; omega)] at hd
        cases hd) (env := [S, k, b, some v, x4, x5, x6, x7, x8]) ⟨_, _, _, _, _, rfl⟩
  refine ⟨y4, y5, y6, y7, y8, ?_⟩
  unfold lp_law_k20_1
  rw [v_for, it, b_bo, h1]
def vs20 (t : Int) : List D := [.non, .bl true, .int t, .str (PySem.Str.ofString ""), .str (PySem.Str.ofString "line"), .tup [], .lst false [], .dct false [], .tup [.tup [.int 1, .non]], .int (-1)]
theorem vk_rv {v : D} (z : fzn v = true) (f : fz v = v) (h : Rv 2 400 v) : Vk v := ⟨z, f, h.repr (by decide) (by decide)⟩
theorem vs_ok {t : Int} (h0 : 0 ≤ t) (h1 : t < 10 ^ 9) : ∀ v ∈ vs20 t, Vk v := by
  intro v hv
  have lo : ∀ {d : D} {n w : Nat}, Rv n w d → n ≤ 2 → w ≤ 400 → Rv 2 400 d := fun h a b => h.mono a b
  simp only [vs20, List.mem_cons, List.not_mem_nil, or_false] at hv
  rcases hv with rfl | rfl | rfl | rfl | rfl | rfl | rfl | rfl | rfl | rfl
  · exact vk_rv rfl rfl (lo (rv_non (n := 0)) (by decide) (by decide))
  · exact vk_rv rfl rfl (lo (rv_bl (n := 0)) (by decide) (by decide))
  · obtain ⟨x, hx⟩ := (rp_int (n := 0) (i := t) (Nat.lt_trans (show t.natAbs < 10 ^ 9 by omega) (by decide))).repr (by decide) (by decide)
    exact ⟨rfl, rfl, reprV_of hx⟩
  · exact vk_rv rfl rfl (lo (rv_str (n := 0) (by decide +kernel)) (by decide) (by decide))
  · exact vk_rv rfl rfl (lo (rv_str (n := 0) (by decide +kernel)) (by decide) (by decide))
  · exact vk_rv rfl rfl (lo (rv_tup (n := 0) (w := 0) fun x hx => absurd hx List.not_mem_nil) (by decide) (by decide))
  · exact vk_rv rfl rfl (lo (rv_lst (n := 0) (w := 0) fun x hx => absurd hx List.not_mem_nil) (by decide) (by decide))
  · exact vk_rv rfl rfl (⟨.dict [], by rw [toPyR, toPyRK]; rfl, rfl, by simp [PyData.depth, PyData.depthKv], by decide +kernel⟩ : Rv 2 400 (.dct false []))
  · refine vk_rv rfl rfl ?_
    have a : Rv 1 200 (.tup [.int 1, .non]) := (rv_tup (n := 0) (w := 52) fun x hx => by
      rcases List.mem_cons.mp hx with rfl | hx
      · exact rv_int (by decide)
      · rw [List.mem_singleton.mp hx]; exact rv_non).mono (by decide) (by decide)
    exact (rv_tup (n := 1) (w := 200) fun x hx => by rw [List.mem_singleton.mp hx]; exact a).mono (by decide) (by decide)
  · exact vk_rv rfl rfl (lo (rv_int (n := 0) (by decide)) (by decide) (by decide))
theorem sz10 {a b c d e f g h i j : D} : decide ([a, b, c, d, e, f, g, h, i, j].length ≤ sizeLine) = true := decide_eq_true (Nat.le_trans (by simp : _ ≤ 100) (by decide))
theorem fzK_n : fzK [] = [] := by rw [fzK]
theorem round20 {ns : List Int} {k : Nat} {x3 x4 x5 x6 x7 x8 : Option D} {b : D} (hb : Bx 0 b) : ∃ b' y3 y4 y5 y6 y7 y8, lp_law_k20_2 [some (.scr (ns.map .int)), some (.int (k : Int)), some b, x3, x4, x5, x6, x7, x8] = .ok .nx [some (.scr (ns.map .int)), some (.int (k : Int)), some b', y3, y4, y5, y6, y7, y8] := by
  obtain ⟨t, b', ht, t0, t1, hb'⟩ := take_spec (m := 1000000000) hb (by decide) (by decide) (by decide)
  have hp : fPow (.int 10) (.int 9) = some (.int 1000000000) := by rfl
  have s10 := @sz10
  have kn := fzK_n
  have it : (iSeq (eLst (lCons (eC .non) (lCons (eC (.bl true)) (lCons (eCall m_l_take [.io 2, .e (eFk (e2 fPow (eC (.int 10)) (eC (.int 9))))]) (lCons (eC (.str (PySem.Str.ofString ""))) (lCons (eC (.str (PySem.Str.ofString "line"))) (lCons (eTup lNil) (lCons (eLst lNil) (lCons eDNew (lCons (eTup (lCons (eTup (lCons (eC (.int 1)) (lCons (eC .non) lNil))) lNil)) (lCons (e1 fNeg (eC (.int 1))) lNil)))))))))))) [some (.scr (ns.map .int)), some (.int (k : Int)), some b, x3, x4, x5, x6, x7, x8] = .ok (vs20 t) [some (.scr (ns.map .int)), some (.int (k : Int)), some b', x3, x4, x5, x6, x7, x8] := by
    clear hb hb' t0 t1
    unfold vs20
    walk_at "ew"
  have ok := vs_ok t0 t1
  obtain ⟨e', h1, y3, y4, y5, y6, y7, y8, rfl⟩ := for_inv (g := gN 3) (m := lb_law_k20_2) (vs20 t)
    (fun _ e => ∃ y3 y4 y5 y6 y7 y8, e = [some (.scr (ns.map .int)), some (.int (k : Int)), some b', y3, y4, y5, y6, y7, y8]) (fun i d env hd hi => by
      obtain ⟨y3, y4, y5, y6, y7, y8, rfl⟩ := hi
      obtain ⟨w4, w5, w6, w7, w8, h2⟩ := loop20 (S := some (.scr (ns.map .int))) (k := some (.int (k : Int))) (b := some b') (x4 := y4) (x5 := y5) (x6 := y6) (x7 := y7) (x8 := y8) (ok d (List.mem_of_getElem? hd))
      exact ⟨_, _, rfl, .inl h2, _, _, _, _, _, _, rfl⟩) (env := [some (.scr (ns.map .int)), some (.int (k : Int)), some b', x3, x4, x5, x6, x7, x8]) ⟨_, _, _, _, _, _, rfl⟩
  refine ⟨b', y3, y4, y5, y6, y7, y8, ?_⟩
  unfold lp_law_k20_2
  rw [v_for, it, b_bo, h1]
theorem law_k20 (ns : List Int) (hn : ns.length ≤ 63) : m_law_k20 [.scr (ns.map .int)] = .ok (.bl true) [] := by
  obtain ⟨u, hu, u1⟩ : ∃ u : Nat, fMin2 [.int 3, .int ((ns.map D.int).length : Nat)] = some (.int u) ∧ u ≤ 3 := by
    by_cases h : (((ns.map D.int).length : Nat) : Int) < 3
    · exact ⟨(ns.map D.int).length, by simp only [fMin2, h, if_true], by omega⟩
    · exact ⟨3, by simp only [fMin2, h, if_false]; rfl, by omega⟩
  have z : fznL (ns.map D.int) = true := fznL_map fun _ _ => rfl
  have hk : m_l_kinds [.exn "OverlapError" []] = .ok (.lst true (rowB 15)) [] := kinds20 (i := 15) (by decide) (by decide)
  have hin : fIn (.bl true) (.lst true (rowB 15)) = some (.bl false) := by rfl
  have s1 : (sIf (bB (e2 fIn (eC (.bl true)) (eCall m_l_kinds [.e (eFk (eMkN "OverlapError"))]))) (sRet (eC (.bl false))) sPass) [some (.scr (ns.map .int)), none, none, none, none, none, none, none, none] = .ok .nx [some (.scr (ns.map .int)), none, none, none, none, none, none, none, none] := by
    generalize rowB 15 = R at *
    clear hu hn
    walk_at "ew"
  have it : (iOf rng1 (lCons (e2 fAdd (eC (.int 1)) (eL fMin2 (lCons (eC (.int 3)) (lCons (eL fLen (lCons (eV 0) lNil)) lNil)))) lNil)) [some (.scr (ns.map .int)), none, none, none, none, none, none, none, none] = .ok ((List.range (1 + u)).map fun k : Nat => .int (k : Int)) [some (.scr (ns.map .int)), none, none, none, none, none, none, none, none] := by
    have h1 := rng1_n (j := 1 + u) (by omega)
    have e : ((1 + u : Nat) : Int) = 1 + (u : Int) := by omega
    rw [e] at h1
    clear hn hk hin s1 e
    walk_at "ew"
  obtain ⟨e', h1, y1, y2, y3, y4, y5, y6, y7, y8, rfl⟩ := for_inv (g := gN 1) (m := lb_law_k20_3) ((List.range (1 + u)).map fun k : Nat => .int (k : Int))
    (fun _ e => ∃ y1 y2 y3 y4 y5 y6 y7 y8, e = [some (.scr (ns.map .int)), y1, y2, y3, y4, y5, y6, y7, y8]) (fun i d env hd hi => by
      obtain ⟨y1, y2, y3, y4, y5, y6, y7, y8, rfl⟩ := hi
      rw [List.getElem?_map] at hd
      have h : i < 1 + u := by
        by_cases h : i < 1 + u
        · exact h
        · rw [List.getElem?_eq_none (by rw [List.length_range]; omega)] at hd
          cases hd
      rw [List.getElem?_range h] at hd
      obtain rfl := Option.some.inj hd
      obtain ⟨b, hb1, hb2⟩ := box_spec (ns := ns) (k := i) (by omega)
      obtain ⟨b', w3, w4, w5, w6, w7, w8, h2⟩ := round20 (ns := ns) (k := i) (x3 := y3) (x4 := y4) (x5 := y5) (x6 := y6) (x7 := y7) (x8 := y8) hb2
      suffices go : lb_law_k20_3 [some (.scr (ns.map .int)), some (.int (i : Int)), y2, y3, y4, y5, y6, y7, y8] = .ok .nx [some (.scr (ns.map .int)), some (.int (i : Int)), some b', w3, w4, w5, w6, w7, w8] from
        ⟨_, _, rfl, .inl go, _, _, _, _, _, _, _, _, rfl⟩
      unfold lb_law_k20_3
      refine (seq_nx (e := [some (.scr (ns.map .int)), some (.int (i : Int)), some b, y3, y4, y5, y6, y7, y8]) ?_ rfl).trans h2
      clear h2 hb2 hu hn hk hin s1 it h
      walk_at "ew") (env := [some (.scr (ns.map .int)), none, none, none, none, none, none, none, none]) ⟨_, _, _, _, _, _, _, _, rfl⟩
  have s2 : lp_law_k20_3 [some (.scr (ns.map .int)), none, none, none, none, none, none, none, none] = .ok .nx [some (.scr (ns.map .int)), y1, y2, y3, y4, y5, y6, y7, y8] := by
    unfold lp_law_k20_3
    rw [v_for, it, b_bo, h1]
  unfold m_law_k20 b_law_k20
  rw [v_fn]
  walk_at "env"
  refine fin_seq s1 (fin_seq s2 ?_)
  clear s1 s2 it hu hn hk hin h1
  walk_at "ew"
end
end Mi
set_option maxHeartbeats 4000000
namespace Mi
open PySem PySem.Spec PyProof.Rows L2 RZ Ov PpSet
abbrev s_e_CommandError : Stmt := inClass (top 15) 0
theorem sc_e_CommandError : FnScope ["self", "line"] ["self", "line"] (defScope s_e_CommandError) := ⟨rfl, rfl, rfl, by decide +kernel, rfl, by decide +kernel, by decide +kernel⟩
abbrev s_e_InvalidCode : Stmt := inClass (top 11) 0
theorem sc_e_InvalidCode : FnScope ["self", "value"] ["self", "value"] (defScope s_e_InvalidCode) := ⟨rfl, rfl, rfl, by decide +kernel, rfl, by decide +kernel, by decide +kernel⟩
abbrev s_e_InvalidCountdowns : Stmt := inClass (top 6) 0
theorem sc_e_InvalidCountdowns : FnScope ["self", "value"] ["self", "value"] (defScope s_e_InvalidCountdowns) := ⟨rfl, rfl, rfl, by decide +kernel, rfl, by decide +kernel, by decide +kernel⟩
abbrev s_e_InvalidEntries : Stmt := inClass (top 8) 0
theorem sc_e_InvalidEntries : FnScope ["self", "value"] ["self", "value"] (defScope s_e_InvalidEntries) := ⟨rfl, rfl, rfl, by decide +kernel, rfl, by decide +kernel, by decide +kernel⟩
abbrev s_e_InvalidEntry : Stmt := inClass (top 3) 0
theorem sc_e_InvalidEntry : FnScope ["self", "value"] ["self", "value"] (defScope s_e_InvalidEntry) := ⟨rfl, rfl, rfl, by decide +kernel, rfl, by decide +kernel, by decide +kernel⟩
abbrev s_e_InvalidInstructionSet : Stmt := inClass (top 2) 0
theorem sc_e_InvalidInstructionSet : FnScope ["self", "field"] ["self", "field"] (defScope s_e_InvalidInstructionSet) := ⟨rfl, rfl, rfl, by decide +kernel, rfl, by decide +kernel, by decide +kernel⟩
abbrev s_e_InvalidLengths : Stmt := inClass (top 5) 0
theorem sc_e_InvalidLengths : FnScope ["self", "value"] ["self", "value"] (defScope s_e_InvalidLengths) := ⟨rfl, rfl, rfl, by decide +kernel, rfl, by decide +kernel, by decide +kernel⟩
abbrev s_e_InvalidNumber : Stmt := inClass (top 10) 0
theorem sc_e_InvalidNumber : FnScope ["self", "value"] ["self", "value"] (defScope s_e_InvalidNumber) := ⟨rfl, rfl, rfl, by decide +kernel, rfl, by decide +kernel, by decide +kernel⟩
abbrev s_e_InvalidOffset : Stmt := inClass (top 4) 0
theorem sc_e_InvalidOffset : FnScope ["self", "value"] ["self", "value"] (defScope s_e_InvalidOffset) := ⟨rfl, rfl, rfl, by decide +kernel, rfl, by decide +kernel, by decide +kernel⟩
abbrev s_e_InvalidProgram : Stmt := inClass (top 7) 0
theorem sc_e_InvalidProgram : FnScope ["self", "value"] ["self", "value"] (defScope s_e_InvalidProgram) := ⟨rfl, rfl, rfl, by decide +kernel, rfl, by decide +kernel, by decide +kernel⟩
abbrev s_e_InvalidTimes : Stmt := inClass (top 12) 0
theorem sc_e_InvalidTimes : FnScope ["self", "value"] ["self", "value"] (defScope s_e_InvalidTimes) := ⟨rfl, rfl, rfl, by decide +kernel, rfl, by decide +kernel, by decide +kernel⟩
abbrev s_e_ParseError : Stmt := inClass (top 14) 0
theorem sc_e_ParseError : FnScope ["self", "line"] ["self", "line"] (defScope s_e_ParseError) := ⟨rfl, rfl, rfl, by decide +kernel, rfl, by decide +kernel, by decide +kernel⟩
abbrev s_e_TooLong : Stmt := inClass (top 16) 0
theorem sc_e_TooLong : FnScope ["self", "size"] ["self", "size"] (defScope s_e_TooLong) := ⟨rfl, rfl, rfl, by decide +kernel, rfl, by decide +kernel, by decide +kernel⟩
abbrev s_e_TooManyStates : Stmt := inClass (top 9) 0
theorem sc_e_TooManyStates : FnScope ["self", "count"] ["self", "count"] (defScope s_e_TooManyStates) := ⟨rfl, rfl, rfl, by decide +kernel, rfl, by decide +kernel, by decide +kernel⟩
theorem all_mk {l : PySem.W.OpenLaw} {w : World} {K : PySem.W.Frag} {h : Heap} {mg : Str → Option Value} {fa : Addr} (X : K.In h) (G : h.Ns mainGlobals mg) (hfa : mg "law" = some (.ref fa))
    {CCommandError : Addr} {nmeCommandError qeCommandError : Str} {NeCommandError : Addr} {bseCommandError bmeCommandError : List Value} {sneCommandError : List Str} {sbeCommandError : List Value} {abeCommandError : Bool} {coeCommandError : Option Bool} {ddeCommandError : Option Addr} {m0eCommandError m1eCommandError m2eCommandError m3eCommandError m5eCommandError : Option Value}
    {feCommandError : Addr} {odeCommandError aneCommandError : Option Addr} {sleCommandError : Array (Option Value)} {oceCommandError kVeCommandError dceCommandError pmeCommandError cdeCommandError cteCommandError : Value}
    {CInvalidCode : Addr} {nmeInvalidCode qeInvalidCode : Str} {NeInvalidCode : Addr} {bseInvalidCode bmeInvalidCode : List Value} {sneInvalidCode : List Str} {sbeInvalidCode : List Value} {abeInvalidCode : Bool} {coeInvalidCode : Option Bool} {ddeInvalidCode : Option Addr} {m0eInvalidCode m1eInvalidCode m2eInvalidCode m3eInvalidCode m5eInvalidCode : Option Value}
    {feInvalidCode : Addr} {odeInvalidCode aneInvalidCode : Option Addr} {sleInvalidCode : Array (Option Value)} {oceInvalidCode kVeInvalidCode dceInvalidCode pmeInvalidCode cdeInvalidCode cteInvalidCode : Value}
    {CInvalidCountdowns : Addr} {nmeInvalidCountdowns qeInvalidCountdowns : Str} {NeInvalidCountdowns : Addr} {bseInvalidCountdowns bmeInvalidCountdowns : List Value} {sneInvalidCountdowns : List Str} {sbeInvalidCountdowns : List Value} {abeInvalidCountdowns : Bool} {coeInvalidCountdowns : Option Bool} {ddeInvalidCountdowns : Option Addr} {m0eInvalidCountdowns m1eInvalidCountdowns m2eInvalidCountdowns m3eInvalidCountdowns m5eInvalidCountdowns : Option Value}
    {feInvalidCountdowns : Addr} {odeInvalidCountdowns aneInvalidCountdowns : Option Addr} {sleInvalidCountdowns : Array (Option Value)} {oceInvalidCountdowns kVeInvalidCountdowns dceInvalidCountdowns pmeInvalidCountdowns cdeInvalidCountdowns cteInvalidCountdowns : Value}
    {CInvalidEntries : Addr} {nmeInvalidEntries qeInvalidEntries : Str} {NeInvalidEntries : Addr} {bseInvalidEntries bmeInvalidEntries : List Value} {sneInvalidEntries : List Str} {sbeInvalidEntries : List Value} {abeInvalidEntries : Bool} {coeInvalidEntries : Option Bool} {ddeInvalidEntries : Option Addr} {m0eInvalidEntries m1eInvalidEntries m2eInvalidEntries m3eInvalidEntries m5eInvalidEntries : Option Value}
    {feInvalidEntries : Addr} {odeInvalidEntries aneInvalidEntries : Option Addr} {sleInvalidEntries : Array (Option Value)} {oceInvalidEntries kVeInvalidEntries dceInvalidEntries pmeInvalidEntries cdeInvalidEntries cteInvalidEntries : Value}
    {CInvalidEntry : Addr} {nmeInvalidEntry qeInvalidEntry : Str} {NeInvalidEntry : Addr} {bseInvalidEntry bmeInvalidEntry : List Value} {sneInvalidEntry : List Str} {sbeInvalidEntry : List Value} {abeInvalidEntry : Bool} {coeInvalidEntry : Option Bool} {ddeInvalidEntry : Option Addr} {m0eInvalidEntry m1eInvalidEntry m2eInvalidEntry m3eInvalidEntry m5eInvalidEntry : Option Value}
    {feInvalidEntry : Addr} {odeInvalidEntry aneInvalidEntry : Option Addr} {sleInvalidEntry : Array (Option Value)} {oceInvalidEntry kVeInvalidEntry dceInvalidEntry pmeInvalidEntry cdeInvalidEntry cteInvalidEntry : Value}
    {CInvalidInstructionSet : Addr} {nmeInvalidInstructionSet qeInvalidInstructionSet : Str} {NeInvalidInstructionSet : Addr} {bseInvalidInstructionSet bmeInvalidInstructionSet : List Value} {sneInvalidInstructionSet : List Str} {sbeInvalidInstructionSet : List Value} {abeInvalidInstructionSet : Bool} {coeInvalidInstructionSet : Option Bool} {ddeInvalidInstructionSet : Option Addr} {m0eInvalidInstructionSet m1eInvalidInstructionSet m2eInvalidInstructionSet m3eInvalidInstructionSet m5eInvalidInstructionSet : Option Value}
    {feInvalidInstructionSet : Addr} {odeInvalidInstructionSet aneInvalidInstructionSet : Option Addr} {sleInvalidInstructionSet : Array (Option Value)} {oceInvalidInstructionSet kVeInvalidInstructionSet dceInvalidInstructionSet pmeInvalidInstructionSet cdeInvalidInstructionSet cteInvalidInstructionSet : Value}
    {CInvalidLengths : Addr} {nmeInvalidLengths qeInvalidLengths : Str} {NeInvalidLengths : Addr} {bseInvalidLengths bmeInvalidLengths : List Value} {sneInvalidLengths : List Str} {sbeInvalidLengths : List Value} {abeInvalidLengths : Bool} {coeInvalidLengths : Option Bool} {ddeInvalidLengths : Option Addr} {m0eInvalidLengths m1eInvalidLengths m2eInvalidLengths m3eInvalidLengths m5eInvalidLengths : Option Value}
    {feInvalidLengths : Addr} {odeInvalidLengths aneInvalidLengths : Option Addr} {sleInvalidLengths : Array (Option Value)} {oceInvalidLengths kVeInvalidLengths dceInvalidLengths pmeInvalidLengths cdeInvalidLengths cteInvalidLengths : Value}
    {CInvalidNumber : Addr} {nmeInvalidNumber qeInvalidNumber : Str} {NeInvalidNumber : Addr} {bseInvalidNumber bmeInvalidNumber : List Value} {sneInvalidNumber : List Str} {sbeInvalidNumber : List Value} {abeInvalidNumber : Bool} {coeInvalidNumber : Option Bool} {ddeInvalidNumber : Option Addr} {m0eInvalidNumber m1eInvalidNumber m2eInvalidNumber m3eInvalidNumber m5eInvalidNumber : Option Value}
    {feInvalidNumber : Addr} {odeInvalidNumber aneInvalidNumber : Option Addr} {sleInvalidNumber : Array (Option Value)} {oceInvalidNumber kVeInvalidNumber dceInvalidNumber pmeInvalidNumber cdeInvalidNumber cteInvalidNumber : Value}
    {CInvalidOffset : Addr} {nmeInvalidOffset qeInvalidOffset : Str} {NeInvalidOffset : Addr} {bseInvalidOffset bmeInvalidOffset : List Value} {sneInvalidOffset : List Str} {sbeInvalidOffset : List Value} {abeInvalidOffset : Bool} {coeInvalidOffset : Option Bool} {ddeInvalidOffset : Option Addr} {m0eInvalidOffset m1eInvalidOffset m2eInvalidOffset m3eInvalidOffset m5eInvalidOffset : Option Value}
    {feInvalidOffset : Addr} {odeInvalidOffset aneInvalidOffset : Option Addr} {sleInvalidOffset : Array (Option Value)} {oceInvalidOffset kVeInvalidOffset dceInvalidOffset pmeInvalidOffset cdeInvalidOffset cteInvalidOffset : Value}
    {CInvalidProgram : Addr} {nmeInvalidProgram qeInvalidProgram : Str} {NeInvalidProgram : Addr} {bseInvalidProgram bmeInvalidProgram : List Value} {sneInvalidProgram : List Str} {sbeInvalidProgram : List Value} {abeInvalidProgram : Bool} {coeInvalidProgram : Option Bool} {ddeInvalidProgram : Option Addr} {m0eInvalidProgram m1eInvalidProgram m2eInvalidProgram m3eInvalidProgram m5eInvalidProgram : Option Value}
    {feInvalidProgram : Addr} {odeInvalidProgram aneInvalidProgram : Option Addr} {sleInvalidProgram : Array (Option Value)} {oceInvalidProgram kVeInvalidProgram dceInvalidProgram pmeInvalidProgram cdeInvalidProgram cteInvalidProgram : Value}
    {CInvalidTimes : Addr} {nmeInvalidTimes qeInvalidTimes : Str} {NeInvalidTimes : Addr} {bseInvalidTimes bmeInvalidTimes : List Value} {sneInvalidTimes : List Str} {sbeInvalidTimes : List Value} {abeInvalidTimes : Bool} {coeInvalidTimes : Option Bool} {ddeInvalidTimes : Option Addr} {m0eInvalidTimes m1eInvalidTimes m2eInvalidTimes m3eInvalidTimes m5eInvalidTimes : Option Value}
    {feInvalidTimes : Addr} {odeInvalidTimes aneInvalidTimes : Option Addr} {sleInvalidTimes : Array (Option Value)} {oceInvalidTimes kVeInvalidTimes dceInvalidTimes pmeInvalidTimes cdeInvalidTimes cteInvalidTimes : Value}
    {CNothingToUndo : Addr} {nmeNothingToUndo qeNothingToUndo : Str} {NeNothingToUndo : Addr} {bseNothingToUndo bmeNothingToUndo : List Value} {sneNothingToUndo : List Str} {sbeNothingToUndo : List Value} {abeNothingToUndo : Bool} {coeNothingToUndo : Option Bool} {ddeNothingToUndo : Option Addr} {m0eNothingToUndo m1eNothingToUndo m2eNothingToUndo m3eNothingToUndo m5eNothingToUndo : Option Value}
    {CParseError : Addr} {nmeParseError qeParseError : Str} {NeParseError : Addr} {bseParseError bmeParseError : List Value} {sneParseError : List Str} {sbeParseError : List Value} {abeParseError : Bool} {coeParseError : Option Bool} {ddeParseError : Option Addr} {m0eParseError m1eParseError m2eParseError m3eParseError m5eParseError : Option Value}
    {feParseError : Addr} {odeParseError aneParseError : Option Addr} {sleParseError : Array (Option Value)} {oceParseError kVeParseError dceParseError pmeParseError cdeParseError cteParseError : Value}
    {CTooLong : Addr} {nmeTooLong qeTooLong : Str} {NeTooLong : Addr} {bseTooLong bmeTooLong : List Value} {sneTooLong : List Str} {sbeTooLong : List Value} {abeTooLong : Bool} {coeTooLong : Option Bool} {ddeTooLong : Option Addr} {m0eTooLong m1eTooLong m2eTooLong m3eTooLong m5eTooLong : Option Value}
    {feTooLong : Addr} {odeTooLong aneTooLong : Option Addr} {sleTooLong : Array (Option Value)} {oceTooLong kVeTooLong dceTooLong pmeTooLong cdeTooLong cteTooLong : Value}
    {CTooManyStates : Addr} {nmeTooManyStates qeTooManyStates : Str} {NeTooManyStates : Addr} {bseTooManyStates bmeTooManyStates : List Value} {sneTooManyStates : List Str} {sbeTooManyStates : List Value} {abeTooManyStates : Bool} {coeTooManyStates : Option Bool} {ddeTooManyStates : Option Addr} {m0eTooManyStates m1eTooManyStates m2eTooManyStates m3eTooManyStates m5eTooManyStates : Option Value}
    {feTooManyStates : Addr} {odeTooManyStates aneTooManyStates : Option Addr} {sleTooManyStates : Array (Option Value)} {oceTooManyStates kVeTooManyStates dceTooManyStates pmeTooManyStates cdeTooManyStates cteTooManyStates : Value}
    {COverlapError : Addr} {nmeOverlapError qeOverlapError : Str} {NeOverlapError : Addr} {bseOverlapError bmeOverlapError : List Value} {sneOverlapError : List Str} {sbeOverlapError : List Value} {abeOverlapError : Bool} {coeOverlapError : Option Bool} {ddeOverlapError : Option Addr} {m0eOverlapError m1eOverlapError m2eOverlapError m3eOverlapError m5eOverlapError : Option Value}
    {f0 : Addr} {od0 an0 : Option Addr} {sl0 : Array (Option Value)} {oc0 kV0 dc0 pm0 cd0 ct0 : Value}
    {f1 : Addr} {od1 an1 : Option Addr} {sl1 : Array (Option Value)} {oc1 kV1 dc1 pm1 cd1 ct1 : Value}
    {f2 : Addr} {od2 an2 : Option Addr} {sl2 : Array (Option Value)} {oc2 kV2 dc2 pm2 cd2 ct2 : Value}
    {f3 : Addr} {od3 an3 : Option Addr} {sl3 : Array (Option Value)} {oc3 kV3 dc3 pm3 cd3 ct3 : Value}
    {f4 : Addr} {od4 an4 : Option Addr} {sl4 : Array (Option Value)} {oc4 kV4 dc4 pm4 cd4 ct4 : Value}
    (gCCommandError : PySem.W.nsIn K mainGlobals "CommandError" = some (some (.ref CCommandError)))
    (oeCommandError : K.lookup CCommandError = some (PySem.excClassObj nmeCommandError qeCommandError CCommandError NeCommandError bseCommandError bmeCommandError true sneCommandError sbeCommandError abeCommandError coeCommandError ddeCommandError m0eCommandError m1eCommandError m2eCommandError m3eCommandError m5eCommandError "ValueError.__new__"))
    (vEeCommandError : PySem.HandSPX.refsVE bmeCommandError = true)
    (saeCommandError : PySem.W.findIn K (.ref CCommandError) "__setattr__" = some (some (.builtin "object.__setattr__")))
    (xbeCommandError : PySem.W.subIn K (.ref CCommandError) (.type "BaseException") = some true)
    (xteCommandError : PySem.W.typeIn K (.ref CCommandError) = some (.type "type"))
    (xkeCommandError : PySem.W.keepIn K (.ref CCommandError) = true)
    (xgeCommandError : PySem.W.findIn K (.ref CCommandError) "__getattribute__" = some (some (.builtin "BaseException.__getattribute__")))
    (xGeCommandError : PySem.W.findIn K (.ref CCommandError) "__getattr__" = some none)
    (xceCommandError : PySem.W.findIn K (.ref CCommandError) "__class__" = some (some (.builtin "object.__class__")))
    (xmeCommandError : PySem.W.mroIn K CCommandError (.type "object") = some true)
    (xdeCommandError : PySem.W.hasDictIn K CCommandError = true)
    (xieCommandError : PySem.W.isClsIn K CCommandError = true)
    (nfeCommandErrorcount : PySem.W.findIn K (.ref CCommandError) (PySem.Str.ofString "count") = some none)
    (nfeCommandErrorfield : PySem.W.findIn K (.ref CCommandError) (PySem.Str.ofString "field") = some none)
    (nfeCommandErrorline : PySem.W.findIn K (.ref CCommandError) (PySem.Str.ofString "line") = some none)
    (nfeCommandErrorsize : PySem.W.findIn K (.ref CCommandError) (PySem.Str.ofString "size") = some none)
    (nfeCommandErrorvalue : PySem.W.findIn K (.ref CCommandError) (PySem.Str.ofString "value") = some none)
    (aeCommandError : PySem.W.findIn K (.ref CCommandError) "__init__" = some (some (.ref feCommandError)))
    (teCommandError : PySem.W.typeIn K (.ref feCommandError) = some (.type "function"))
    (leCommandError : K.lookup feCommandError = some ⟨oceCommandError, odeCommandError, .func (PySem.W.fnOf "__init__" "CommandError.__init__" (defArgs s_e_CommandError) (defBody s_e_CommandError) (defScope s_e_CommandError) .none kVeCommandError dceCommandError pmeCommandError aneCommandError cdeCommandError cteCommandError), sleCommandError⟩)
    (ceCommandError : PySem.W.codeIn K cdeCommandError "CommandError.__init__" = true)
    (keCommandError : PySem.W.keepIn K (.ref feCommandError) = true)
    (gCInvalidCode : PySem.W.nsIn K mainGlobals "InvalidCode" = some (some (.ref CInvalidCode)))
    (oeInvalidCode : K.lookup CInvalidCode = some (PySem.excClassObj nmeInvalidCode qeInvalidCode CInvalidCode NeInvalidCode bseInvalidCode bmeInvalidCode true sneInvalidCode sbeInvalidCode abeInvalidCode coeInvalidCode ddeInvalidCode m0eInvalidCode m1eInvalidCode m2eInvalidCode m3eInvalidCode m5eInvalidCode "ValueError.__new__"))
    (vEeInvalidCode : PySem.HandSPX.refsVE bmeInvalidCode = true)
    (saeInvalidCode : PySem.W.findIn K (.ref CInvalidCode) "__setattr__" = some (some (.builtin "object.__setattr__")))
    (xbeInvalidCode : PySem.W.subIn K (.ref CInvalidCode) (.type "BaseException") = some true)
    (xteInvalidCode : PySem.W.typeIn K (.ref CInvalidCode) = some (.type "type"))
    (xkeInvalidCode : PySem.W.keepIn K (.ref CInvalidCode) = true)
    (xgeInvalidCode : PySem.W.findIn K (.ref CInvalidCode) "__getattribute__" = some (some (.builtin "BaseException.__getattribute__")))
    (xGeInvalidCode : PySem.W.findIn K (.ref CInvalidCode) "__getattr__" = some none)
    (xceInvalidCode : PySem.W.findIn K (.ref CInvalidCode) "__class__" = some (some (.builtin "object.__class__")))
    (xmeInvalidCode : PySem.W.mroIn K CInvalidCode (.type "object") = some true)
    (xdeInvalidCode : PySem.W.hasDictIn K CInvalidCode = true)
    (xieInvalidCode : PySem.W.isClsIn K CInvalidCode = true)
    (nfeInvalidCodecount : PySem.W.findIn K (.ref CInvalidCode) (PySem.Str.ofString "count") = some none)
    (nfeInvalidCodefield : PySem.W.findIn K (.ref CInvalidCode) (PySem.Str.ofString "field") = some none)
    (nfeInvalidCodeline : PySem.W.findIn K (.ref CInvalidCode) (PySem.Str.ofString "line") = some none)
    (nfeInvalidCodesize : PySem.W.findIn K (.ref CInvalidCode) (PySem.Str.ofString "size") = some none)
    (nfeInvalidCodevalue : PySem.W.findIn K (.ref CInvalidCode) (PySem.Str.ofString "value") = some none)
    (aeInvalidCode : PySem.W.findIn K (.ref CInvalidCode) "__init__" = some (some (.ref feInvalidCode)))
    (teInvalidCode : PySem.W.typeIn K (.ref feInvalidCode) = some (.type "function"))
    (leInvalidCode : K.lookup feInvalidCode = some ⟨oceInvalidCode, odeInvalidCode, .func (PySem.W.fnOf "__init__" "InvalidCode.__init__" (defArgs s_e_InvalidCode) (defBody s_e_InvalidCode) (defScope s_e_InvalidCode) .none kVeInvalidCode dceInvalidCode pmeInvalidCode aneInvalidCode cdeInvalidCode cteInvalidCode), sleInvalidCode⟩)
    (ceInvalidCode : PySem.W.codeIn K cdeInvalidCode "InvalidCode.__init__" = true)
    (keInvalidCode : PySem.W.keepIn K (.ref feInvalidCode) = true)
    (gCInvalidCountdowns : PySem.W.nsIn K mainGlobals "InvalidCountdowns" = some (some (.ref CInvalidCountdowns)))
    (oeInvalidCountdowns : K.lookup CInvalidCountdowns = some (PySem.excClassObj nmeInvalidCountdowns qeInvalidCountdowns CInvalidCountdowns NeInvalidCountdowns bseInvalidCountdowns bmeInvalidCountdowns true sneInvalidCountdowns sbeInvalidCountdowns abeInvalidCountdowns coeInvalidCountdowns ddeInvalidCountdowns m0eInvalidCountdowns m1eInvalidCountdowns m2eInvalidCountdowns m3eInvalidCountdowns m5eInvalidCountdowns "ValueError.__new__"))
    (vEeInvalidCountdowns : PySem.HandSPX.refsVE bmeInvalidCountdowns = true)
    (saeInvalidCountdowns : PySem.W.findIn K (.ref CInvalidCountdowns) "__setattr__" = some (some (.builtin "object.__setattr__")))
    (xbeInvalidCountdowns : PySem.W.subIn K (.ref CInvalidCountdowns) (.type "BaseException") = some true)
    (xteInvalidCountdowns : PySem.W.typeIn K (.ref CInvalidCountdowns) = some (.type "type"))
    (xkeInvalidCountdowns : PySem.W.keepIn K (.ref CInvalidCountdowns) = true)
    (xgeInvalidCountdowns : PySem.W.findIn K (.ref CInvalidCountdowns) "__getattribute__" = some (some (.builtin "BaseException.__getattribute__")))
    (xGeInvalidCountdowns : PySem.W.findIn K (.ref CInvalidCountdowns) "__getattr__" = some none)
    (xceInvalidCountdowns : PySem.W.findIn K (.ref CInvalidCountdowns) "__class__" = some (some (.builtin "object.__class__")))
    (xmeInvalidCountdowns : PySem.W.mroIn K CInvalidCountdowns (.type "object") = some true)
    (xdeInvalidCountdowns : PySem.W.hasDictIn K CInvalidCountdowns = true)
    (xieInvalidCountdowns : PySem.W.isClsIn K CInvalidCountdowns = true)
    (nfeInvalidCountdownscount : PySem.W.findIn K (.ref CInvalidCountdowns) (PySem.Str.ofString "count") = some none)
    (nfeInvalidCountdownsfield : PySem.W.findIn K (.ref CInvalidCountdowns) (PySem.Str.ofString "field") = some none)
    (nfeInvalidCountdownsline : PySem.W.findIn K (.ref CInvalidCountdowns) (PySem.Str.ofString "line") = some none)
    (nfeInvalidCountdownssize : PySem.W.findIn K (.ref CInvalidCountdowns) (PySem.Str.ofString "size") = some none)
    (nfeInvalidCountdownsvalue : PySem.W.findIn K (.ref CInvalidCountdowns) (PySem.Str.ofString "value") = some none)
    (aeInvalidCountdowns : PySem.W.findIn K (.ref CInvalidCountdowns) "__init__" = some (some (.ref feInvalidCountdowns)))
    (teInvalidCountdowns : PySem.W.typeIn K (.ref feInvalidCountdowns) = some (.type "function"))
    (leInvalidCountdowns : K.lookup feInvalidCountdowns = some ⟨oceInvalidCountdowns, odeInvalidCountdowns, .func (PySem.W.fnOf "__init__" "InvalidCountdowns.__init__" (defArgs s_e_InvalidCountdowns) (defBody s_e_InvalidCountdowns) (defScope s_e_InvalidCountdowns) .none kVeInvalidCountdowns dceInvalidCountdowns pmeInvalidCountdowns aneInvalidCountdowns cdeInvalidCountdowns cteInvalidCountdowns), sleInvalidCountdowns⟩)
    (ceInvalidCountdowns : PySem.W.codeIn K cdeInvalidCountdowns "InvalidCountdowns.__init__" = true)
    (keInvalidCountdowns : PySem.W.keepIn K (.ref feInvalidCountdowns) = true)
    (gCInvalidEntries : PySem.W.nsIn K mainGlobals "InvalidEntries" = some (some (.ref CInvalidEntries)))
    (oeInvalidEntries : K.lookup CInvalidEntries = some (PySem.excClassObj nmeInvalidEntries qeInvalidEntries CInvalidEntries NeInvalidEntries bseInvalidEntries bmeInvalidEntries true sneInvalidEntries sbeInvalidEntries abeInvalidEntries coeInvalidEntries ddeInvalidEntries m0eInvalidEntries m1eInvalidEntries m2eInvalidEntries m3eInvalidEntries m5eInvalidEntries "ValueError.__new__"))
    (vEeInvalidEntries : PySem.HandSPX.refsVE bmeInvalidEntries = true)
    (saeInvalidEntries : PySem.W.findIn K (.ref CInvalidEntries) "__setattr__" = some (some (.builtin "object.__setattr__")))
    (xbeInvalidEntries : PySem.W.subIn K (.ref CInvalidEntries) (.type "BaseException") = some true)
    (xteInvalidEntries : PySem.W.typeIn K (.ref CInvalidEntries) = some (.type "type"))
    (xkeInvalidEntries : PySem.W.keepIn K (.ref CInvalidEntries) = true)
    (xgeInvalidEntries : PySem.W.findIn K (.ref CInvalidEntries) "__getattribute__" = some (some (.builtin "BaseException.__getattribute__")))
    (xGeInvalidEntries : PySem.W.findIn K (.ref CInvalidEntries) "__getattr__" = some none)
    (xceInvalidEntries : PySem.W.findIn K (.ref CInvalidEntries) "__class__" = some (some (.builtin "object.__class__")))
    (xmeInvalidEntries : PySem.W.mroIn K CInvalidEntries (.type "object") = some true)
    (xdeInvalidEntries : PySem.W.hasDictIn K CInvalidEntries = true)
    (xieInvalidEntries : PySem.W.isClsIn K CInvalidEntries = true)
    (nfeInvalidEntriescount : PySem.W.findIn K (.ref CInvalidEntries) (PySem.Str.ofString "count") = some none)
    (nfeInvalidEntriesfield : PySem.W.findIn K (.ref CInvalidEntries) (PySem.Str.ofString "field") = some none)
    (nfeInvalidEntriesline : PySem.W.findIn K (.ref CInvalidEntries) (PySem.Str.ofString "line") = some none)
    (nfeInvalidEntriessize : PySem.W.findIn K (.ref CInvalidEntries) (PySem.Str.ofString "size") = some none)
    (nfeInvalidEntriesvalue : PySem.W.findIn K (.ref CInvalidEntries) (PySem.Str.ofString "value") = some none)
    (aeInvalidEntries : PySem.W.findIn K (.ref CInvalidEntries) "__init__" = some (some (.ref feInvalidEntries)))
    (teInvalidEntries : PySem.W.typeIn K (.ref feInvalidEntries) = some (.type "function"))
    (leInvalidEntries : K.lookup feInvalidEntries = some ⟨oceInvalidEntries, odeInvalidEntries, .func (PySem.W.fnOf "__init__" "InvalidEntries.__init__" (defArgs s_e_InvalidEntries) (defBody s_e_InvalidEntries) (defScope s_e_InvalidEntries) .none kVeInvalidEntries dceInvalidEntries pmeInvalidEntries aneInvalidEntries cdeInvalidEntries cteInvalidEntries), sleInvalidEntries⟩)
    (ceInvalidEntries : PySem.W.codeIn K cdeInvalidEntries "InvalidEntries.__init__" = true)
    (keInvalidEntries : PySem.W.keepIn K (.ref feInvalidEntries) = true)
    (gCInvalidEntry : PySem.W.nsIn K mainGlobals "InvalidEntry" = some (some (.ref CInvalidEntry)))
    (oeInvalidEntry : K.lookup CInvalidEntry = some (PySem.excClassObj nmeInvalidEntry qeInvalidEntry CInvalidEntry NeInvalidEntry bseInvalidEntry bmeInvalidEntry true sneInvalidEntry sbeInvalidEntry abeInvalidEntry coeInvalidEntry ddeInvalidEntry m0eInvalidEntry m1eInvalidEntry m2eInvalidEntry m3eInvalidEntry m5eInvalidEntry "ValueError.__new__"))
    (vEeInvalidEntry : PySem.HandSPX.refsVE bmeInvalidEntry = true)
    (saeInvalidEntry : PySem.W.findIn K (.ref CInvalidEntry) "__setattr__" = some (some (.builtin "object.__setattr__")))
    (xbeInvalidEntry : PySem.W.subIn K (.ref CInvalidEntry) (.type "BaseException") = some true)
    (xteInvalidEntry : PySem.W.typeIn K (.ref CInvalidEntry) = some (.type "type"))
    (xkeInvalidEntry : PySem.W.keepIn K (.ref CInvalidEntry) = true)
    (xgeInvalidEntry : PySem.W.findIn K (.ref CInvalidEntry) "__getattribute__" = some (some (.builtin "BaseException.__getattribute__")))
    (xGeInvalidEntry : PySem.W.findIn K (.ref CInvalidEntry) "__getattr__" = some none)
    (xceInvalidEntry : PySem.W.findIn K (.ref CInvalidEntry) "__class__" = some (some (.builtin "object.__class__")))
    (xmeInvalidEntry : PySem.W.mroIn K CInvalidEntry (.type "object") = some true)
    (xdeInvalidEntry : PySem.W.hasDictIn K CInvalidEntry = true)
    (xieInvalidEntry : PySem.W.isClsIn K CInvalidEntry = true)
    (nfeInvalidEntrycount : PySem.W.findIn K (.ref CInvalidEntry) (PySem.Str.ofString "count") = some none)
    (nfeInvalidEntryfield : PySem.W.findIn K (.ref CInvalidEntry) (PySem.Str.ofString "field") = some none)
    (nfeInvalidEntryline : PySem.W.findIn K (.ref CInvalidEntry) (PySem.Str.ofString "line") = some none)
    (nfeInvalidEntrysize : PySem.W.findIn K (.ref CInvalidEntry) (PySem.Str.ofString "size") = some none)
    (nfeInvalidEntryvalue : PySem.W.findIn K (.ref CInvalidEntry) (PySem.Str.ofString "value") = some none)
    (aeInvalidEntry : PySem.W.findIn K (.ref CInvalidEntry) "__init__" = some (some (.ref feInvalidEntry)))
    (teInvalidEntry : PySem.W.typeIn K (.ref feInvalidEntry) = some (.type "function"))
    (leInvalidEntry : K.lookup feInvalidEntry = some ⟨oceInvalidEntry, odeInvalidEntry, .func (PySem.W.fnOf "__init__" "InvalidEntry.__init__" (defArgs s_e_InvalidEntry) (defBody s_e_InvalidEntry) (defScope s_e_InvalidEntry) .none kVeInvalidEntry dceInvalidEntry pmeInvalidEntry aneInvalidEntry cdeInvalidEntry cteInvalidEntry), sleInvalidEntry⟩)
    (ceInvalidEntry : PySem.W.codeIn K cdeInvalidEntry "InvalidEntry.__init__" = true)
    (keInvalidEntry : PySem.W.keepIn K (.ref feInvalidEntry) = true)
    (gCInvalidInstructionSet : PySem.W.nsIn K mainGlobals "InvalidInstructionSet" = some (some (.ref CInvalidInstructionSet)))
    (oeInvalidInstructionSet : K.lookup CInvalidInstructionSet = some (PySem.excClassObj nmeInvalidInstructionSet qeInvalidInstructionSet CInvalidInstructionSet NeInvalidInstructionSet bseInvalidInstructionSet bmeInvalidInstructionSet true sneInvalidInstructionSet sbeInvalidInstructionSet abeInvalidInstructionSet coeInvalidInstructionSet ddeInvalidInstructionSet m0eInvalidInstructionSet m1eInvalidInstructionSet m2eInvalidInstructionSet m3eInvalidInstructionSet m5eInvalidInstructionSet "ValueError.__new__"))
    (vEeInvalidInstructionSet : PySem.HandSPX.refsVE bmeInvalidInstructionSet = true)
    (saeInvalidInstructionSet : PySem.W.findIn K (.ref CInvalidInstructionSet) "__setattr__" = some (some (.builtin "object.__setattr__")))
    (xbeInvalidInstructionSet : PySem.W.subIn K (.ref CInvalidInstructionSet) (.type "BaseException") = some true)
    (xteInvalidInstructionSet : PySem.W.typeIn K (.ref CInvalidInstructionSet) = some (.type "type"))
    (xkeInvalidInstructionSet : PySem.W.keepIn K (.ref CInvalidInstructionSet) = true)
    (xgeInvalidInstructionSet : PySem.W.findIn K (.ref CInvalidInstructionSet) "__getattribute__" = some (some (.builtin "BaseException.__getattribute__")))
    (xGeInvalidInstructionSet : PySem.W.findIn K (.ref CInvalidInstructionSet) "__getattr__" = some none)
    (xceInvalidInstructionSet : PySem.W.findIn K (.ref CInvalidInstructionSet) "__class__" = some (some (.builtin "object.__class__")))
    (xmeInvalidInstructionSet : PySem.W.mroIn K CInvalidInstructionSet (.type "object") = some true)
    (xdeInvalidInstructionSet : PySem.W.hasDictIn K CInvalidInstructionSet = true)
    (xieInvalidInstructionSet : PySem.W.isClsIn K CInvalidInstructionSet = true)
    (nfeInvalidInstructionSetcount : PySem.W.findIn K (.ref CInvalidInstructionSet) (PySem.Str.ofString "count") = some none)
    (nfeInvalidInstructionSetfield : PySem.W.findIn K (.ref CInvalidInstructionSet) (PySem.Str.ofString "field") = some none)
    (nfeInvalidInstructionSetline : PySem.W.findIn K (.ref CInvalidInstructionSet) (PySem.Str.ofString "line") = some none)
    (nfeInvalidInstructionSetsize : PySem.W.findIn K (.ref CInvalidInstructionSet) (PySem.Str.ofString "size") = some none)
    (nfeInvalidInstructionSetvalue : PySem.W.findIn K (.ref CInvalidInstructionSet) (PySem.Str.ofString "value") = some none)
    (aeInvalidInstructionSet : PySem.W.findIn K (.ref CInvalidInstructionSet) "__init__" = some (some (.ref feInvalidInstructionSet)))
    (teInvalidInstructionSet : PySem.W.typeIn K (.ref feInvalidInstructionSet) = some (.type "function"))
    (leInvalidInstructionSet : K.lookup feInvalidInstructionSet = some ⟨oceInvalidInstructionSet, odeInvalidInstructionSet, .func (PySem.W.fnOf "__init__" "InvalidInstructionSet.__init__" (defArgs s_e_InvalidInstructionSet) (defBody s_e_InvalidInstructionSet) (defScope s_e_InvalidInstructionSet) .none kVeInvalidInstructionSet dceInvalidInstructionSet pmeInvalidInstructionSet aneInvalidInstructionSet cdeInvalidInstructionSet cteInvalidInstructionSet), sleInvalidInstructionSet⟩)
    (ceInvalidInstructionSet : PySem.W.codeIn K cdeInvalidInstructionSet "InvalidInstructionSet.__init__" = true)
    (keInvalidInstructionSet : PySem.W.keepIn K (.ref feInvalidInstructionSet) = true)
    (gCInvalidLengths : PySem.W.nsIn K mainGlobals "InvalidLengths" = some (some (.ref CInvalidLengths)))
    (oeInvalidLengths : K.lookup CInvalidLengths = some (PySem.excClassObj nmeInvalidLengths qeInvalidLengths CInvalidLengths NeInvalidLengths bseInvalidLengths bmeInvalidLengths true sneInvalidLengths sbeInvalidLengths abeInvalidLengths coeInvalidLengths ddeInvalidLengths m0eInvalidLengths m1eInvalidLengths m2eInvalidLengths m3eInvalidLengths m5eInvalidLengths "ValueError.__new__"))
    (vEeInvalidLengths : PySem.HandSPX.refsVE bmeInvalidLengths = true)
    (saeInvalidLengths : PySem.W.findIn K (.ref CInvalidLengths) "__setattr__" = some (some (.builtin "object.__setattr__")))
    (xbeInvalidLengths : PySem.W.subIn K (.ref CInvalidLengths) (.type "BaseException") = some true)
    (xteInvalidLengths : PySem.W.typeIn K (.ref CInvalidLengths) = some (.type "type"))
    (xkeInvalidLengths : PySem.W.keepIn K (.ref CInvalidLengths) = true)
    (xgeInvalidLengths : PySem.W.findIn K (.ref CInvalidLengths) "__getattribute__" = some (some (.builtin "BaseException.__getattribute__")))
    (xGeInvalidLengths : PySem.W.findIn K (.ref CInvalidLengths) "__getattr__" = some none)
    (xceInvalidLengths : PySem.W.findIn K (.ref CInvalidLengths) "__class__" = some (some (.builtin "object.__class__")))
    (xmeInvalidLengths : PySem.W.mroIn K CInvalidLengths (.type "object") = some true)
    (xdeInvalidLengths : PySem.W.hasDictIn K CInvalidLengths = true)
    (xieInvalidLengths : PySem.W.isClsIn K CInvalidLengths = true)
    (nfeInvalidLengthscount : PySem.W.findIn K (.ref CInvalidLengths) (PySem.Str.ofString "count") = some none)
    (nfeInvalidLengthsfield : PySem.W.findIn K (.ref CInvalidLengths) (PySem.Str.ofString "field") = some none)
    (nfeInvalidLengthsline : PySem.W.findIn K (.ref CInvalidLengths) (PySem.Str.ofString "line") = some none)
    (nfeInvalidLengthssize : PySem.W.findIn K (.ref CInvalidLengths) (PySem.Str.ofString "size") = some none)
    (nfeInvalidLengthsvalue : PySem.W.findIn K (.ref CInvalidLengths) (PySem.Str.ofString "value") = some none)
    (aeInvalidLengths : PySem.W.findIn K (.ref CInvalidLengths) "__init__" = some (some (.ref feInvalidLengths)))
    (teInvalidLengths : PySem.W.typeIn K (.ref feInvalidLengths) = some (.type "function"))
    (leInvalidLengths : K.lookup feInvalidLengths = some ⟨oceInvalidLengths, odeInvalidLengths, .func (PySem.W.fnOf "__init__" "InvalidLengths.__init__" (defArgs s_e_InvalidLengths) (defBody s_e_InvalidLengths) (defScope s_e_InvalidLengths) .none kVeInvalidLengths dceInvalidLengths pmeInvalidLengths aneInvalidLengths cdeInvalidLengths cteInvalidLengths), sleInvalidLengths⟩)
    (ceInvalidLengths : PySem.W.codeIn K cdeInvalidLengths "InvalidLengths.__init__" = true)
    (keInvalidLengths : PySem.W.keepIn K (.ref feInvalidLengths) = true)
    (gCInvalidNumber : PySem.W.nsIn K mainGlobals "InvalidNumber" = some (some (.ref CInvalidNumber)))
    (oeInvalidNumber : K.lookup CInvalidNumber = some (PySem.excClassObj nmeInvalidNumber qeInvalidNumber CInvalidNumber NeInvalidNumber bseInvalidNumber bmeInvalidNumber true sneInvalidNumber sbeInvalidNumber abeInvalidNumber coeInvalidNumber ddeInvalidNumber m0eInvalidNumber m1eInvalidNumber m2eInvalidNumber m3eInvalidNumber m5eInvalidNumber "ValueError.__new__"))
    (vEeInvalidNumber : PySem.HandSPX.refsVE bmeInvalidNumber = true)
    (saeInvalidNumber : PySem.W.findIn K (.ref CInvalidNumber) "__setattr__" = some (some (.builtin "object.__setattr__")))
    (xbeInvalidNumber : PySem.W.subIn K (.ref CInvalidNumber) (.type "BaseException") = some true)
    (xteInvalidNumber : PySem.W.typeIn K (.ref CInvalidNumber) = some (.type "type"))
    (xkeInvalidNumber : PySem.W.keepIn K (.ref CInvalidNumber) = true)
    (xgeInvalidNumber : PySem.W.findIn K (.ref CInvalidNumber) "__getattribute__" = some (some (.builtin "BaseException.__getattribute__")))
    (xGeInvalidNumber : PySem.W.findIn K (.ref CInvalidNumber) "__getattr__" = some none)
    (xceInvalidNumber : PySem.W.findIn K (.ref CInvalidNumber) "__class__" = some (some (.builtin "object.__class__")))
    (xmeInvalidNumber : PySem.W.mroIn K CInvalidNumber (.type "object") = some true)
    (xdeInvalidNumber : PySem.W.hasDictIn K CInvalidNumber = true)
    (xieInvalidNumber : PySem.W.isClsIn K CInvalidNumber = true)
    (nfeInvalidNumbercount : PySem.W.findIn K (.ref CInvalidNumber) (PySem.Str.ofString "count") = some none)
    (nfeInvalidNumberfield : PySem.W.findIn K (.ref CInvalidNumber) (PySem.Str.ofString "field") = some none)
    (nfeInvalidNumberline : PySem.W.findIn K (.ref CInvalidNumber) (PySem.Str.ofString "line") = some none)
    (nfeInvalidNumbersize : PySem.W.findIn K (.ref CInvalidNumber) (PySem.Str.ofString "size") = some none)
    (nfeInvalidNumbervalue : PySem.W.findIn K (.ref CInvalidNumber) (PySem.Str.ofString "value") = some none)
    (aeInvalidNumber : PySem.W.findIn K (.ref CInvalidNumber) "__init__" = some (some (.ref feInvalidNumber)))
    (teInvalidNumber : PySem.W.typeIn K (.ref feInvalidNumber) = some (.type "function"))
    (leInvalidNumber : K.lookup feInvalidNumber = some ⟨oceInvalidNumber, odeInvalidNumber, .func (PySem.W.fnOf "__init__" "InvalidNumber.__init__" (defArgs s_e_InvalidNumber) (defBody s_e_InvalidNumber) (defScope s_e_InvalidNumber) .none kVeInvalidNumber dceInvalidNumber pmeInvalidNumber aneInvalidNumber cdeInvalidNumber cteInvalidNumber), sleInvalidNumber⟩)
    (ceInvalidNumber : PySem.W.codeIn K cdeInvalidNumber "InvalidNumber.__init__" = true)
    (keInvalidNumber : PySem.W.keepIn K (.ref feInvalidNumber) = true)
    (gCInvalidOffset : PySem.W.nsIn K mainGlobals "InvalidOffset" = some (some (.ref CInvalidOffset)))
    (oeInvalidOffset : K.lookup CInvalidOffset = some (PySem.excClassObj nmeInvalidOffset qeInvalidOffset CInvalidOffset NeInvalidOffset bseInvalidOffset bmeInvalidOffset true sneInvalidOffset sbeInvalidOffset abeInvalidOffset coeInvalidOffset ddeInvalidOffset m0eInvalidOffset m1eInvalidOffset m2eInvalidOffset m3eInvalidOffset m5eInvalidOffset "ValueError.__new__"))
    (vEeInvalidOffset : PySem.HandSPX.refsVE bmeInvalidOffset = true)
    (saeInvalidOffset : PySem.W.findIn K (.ref CInvalidOffset) "__setattr__" = some (some (.builtin "object.__setattr__")))
    (xbeInvalidOffset : PySem.W.subIn K (.ref CInvalidOffset) (.type "BaseException") = some true)
    (xteInvalidOffset : PySem.W.typeIn K (.ref CInvalidOffset) = some (.type "type"))
    (xkeInvalidOffset : PySem.W.keepIn K (.ref CInvalidOffset) = true)
    (xgeInvalidOffset : PySem.W.findIn K (.ref CInvalidOffset) "__getattribute__" = some (some (.builtin "BaseException.__getattribute__")))
    (xGeInvalidOffset : PySem.W.findIn K (.ref CInvalidOffset) "__getattr__" = some none)
    (xceInvalidOffset : PySem.W.findIn K (.ref CInvalidOffset) "__class__" = some (some (.builtin "object.__class__")))
    (xmeInvalidOffset : PySem.W.mroIn K CInvalidOffset (.type "object") = some true)
    (xdeInvalidOffset : PySem.W.hasDictIn K CInvalidOffset = true)
    (xieInvalidOffset : PySem.W.isClsIn K CInvalidOffset = true)
    (nfeInvalidOffsetcount : PySem.W.findIn K (.ref CInvalidOffset) (PySem.Str.ofString "count") = some none)
    (nfeInvalidOffsetfield : PySem.W.findIn K (.ref CInvalidOffset) (PySem.Str.ofString "field") = some none)
    (nfeInvalidOffsetline : PySem.W.findIn K (.ref CInvalidOffset) (PySem.Str.ofString "line") = some none)
    (nfeInvalidOffsetsize : PySem.W.findIn K (.ref CInvalidOffset) (PySem.Str.ofString "size") = some none)
    (nfeInvalidOffsetvalue : PySem.W.findIn K (.ref CInvalidOffset) (PySem.Str.ofString "value") = some none)
    (aeInvalidOffset : PySem.W.findIn K (.ref CInvalidOffset) "__init__" = some (some (.ref feInvalidOffset)))
    (teInvalidOffset : PySem.W.typeIn K (.ref feInvalidOffset) = some (.type "function"))
    (leInvalidOffset : K.lookup feInvalidOffset = some ⟨oceInvalidOffset, odeInvalidOffset, .func (PySem.W.fnOf "__init__" "InvalidOffset.__init__" (defArgs s_e_InvalidOffset) (defBody s_e_InvalidOffset) (defScope s_e_InvalidOffset) .none kVeInvalidOffset dceInvalidOffset pmeInvalidOffset aneInvalidOffset cdeInvalidOffset cteInvalidOffset), sleInvalidOffset⟩)
    (ceInvalidOffset : PySem.W.codeIn K cdeInvalidOffset "InvalidOffset.__init__" = true)
    (keInvalidOffset : PySem.W.keepIn K (.ref feInvalidOffset) = true)
    (gCInvalidProgram : PySem.W.nsIn K mainGlobals "InvalidProgram" = some (some (.ref CInvalidProgram)))
    (oeInvalidProgram : K.lookup CInvalidProgram = some (PySem.excClassObj nmeInvalidProgram qeInvalidProgram CInvalidProgram NeInvalidProgram bseInvalidProgram bmeInvalidProgram true sneInvalidProgram sbeInvalidProgram abeInvalidProgram coeInvalidProgram ddeInvalidProgram m0eInvalidProgram m1eInvalidProgram m2eInvalidProgram m3eInvalidProgram m5eInvalidProgram "ValueError.__new__"))
    (vEeInvalidProgram : PySem.HandSPX.refsVE bmeInvalidProgram = true)
    (saeInvalidProgram : PySem.W.findIn K (.ref CInvalidProgram) "__setattr__" = some (some (.builtin "object.__setattr__")))
    (xbeInvalidProgram : PySem.W.subIn K (.ref CInvalidProgram) (.type "BaseException") = some true)
    (xteInvalidProgram : PySem.W.typeIn K (.ref CInvalidProgram) = some (.type "type"))
    (xkeInvalidProgram : PySem.W.keepIn K (.ref CInvalidProgram) = true)
    (xgeInvalidProgram : PySem.W.findIn K (.ref CInvalidProgram) "__getattribute__" = some (some (.builtin "BaseException.__getattribute__")))
    (xGeInvalidProgram : PySem.W.findIn K (.ref CInvalidProgram) "__getattr__" = some none)
    (xceInvalidProgram : PySem.W.findIn K (.ref CInvalidProgram) "__class__" = some (some (.builtin "object.__class__")))
    (xmeInvalidProgram : PySem.W.mroIn K CInvalidProgram (.type "object") = some true)
    (xdeInvalidProgram : PySem.W.hasDictIn K CInvalidProgram = true)
    (xieInvalidProgram : PySem.W.isClsIn K CInvalidProgram = true)
    (nfeInvalidProgramcount : PySem.W.findIn K (.ref CInvalidProgram) (PySem.Str.ofString "count") = some none)
    (nfeInvalidProgramfield : PySem.W.findIn K (.ref CInvalidProgram) (PySem.Str.ofString "field") = some none)
    (nfeInvalidProgramline : PySem.W.findIn K (.ref CInvalidProgram) (PySem.Str.ofString "line") = some none)
    (nfeInvalidProgramsize : PySem.W.findIn K (.ref CInvalidProgram) (PySem.Str.ofString "size") = some none)
    (nfeInvalidProgramvalue : PySem.W.findIn K (.ref CInvalidProgram) (PySem.Str.ofString "value") = some none)
    (aeInvalidProgram : PySem.W.findIn K (.ref CInvalidProgram) "__init__" = some (some (.ref feInvalidProgram)))
    (teInvalidProgram : PySem.W.typeIn K (.ref feInvalidProgram) = some (.type "function"))
    (leInvalidProgram : K.lookup feInvalidProgram = some ⟨oceInvalidProgram, odeInvalidProgram, .func (PySem.W.fnOf "__init__" "InvalidProgram.__init__" (defArgs s_e_InvalidProgram) (defBody s_e_InvalidProgram) (defScope s_e_InvalidProgram) .none kVeInvalidProgram dceInvalidProgram pmeInvalidProgram aneInvalidProgram cdeInvalidProgram cteInvalidProgram), sleInvalidProgram⟩)
    (ceInvalidProgram : PySem.W.codeIn K cdeInvalidProgram "InvalidProgram.__init__" = true)
    (keInvalidProgram : PySem.W.keepIn K (.ref feInvalidProgram) = true)
    (gCInvalidTimes : PySem.W.nsIn K mainGlobals "InvalidTimes" = some (some (.ref CInvalidTimes)))
    (oeInvalidTimes : K.lookup CInvalidTimes = some (PySem.excClassObj nmeInvalidTimes qeInvalidTimes CInvalidTimes NeInvalidTimes bseInvalidTimes bmeInvalidTimes true sneInvalidTimes sbeInvalidTimes abeInvalidTimes coeInvalidTimes ddeInvalidTimes m0eInvalidTimes m1eInvalidTimes m2eInvalidTimes m3eInvalidTimes m5eInvalidTimes "ValueError.__new__"))
    (vEeInvalidTimes : PySem.HandSPX.refsVE bmeInvalidTimes = true)
    (saeInvalidTimes : PySem.W.findIn K (.ref CInvalidTimes) "__setattr__" = some (some (.builtin "object.__setattr__")))
    (xbeInvalidTimes : PySem.W.subIn K (.ref CInvalidTimes) (.type "BaseException") = some true)
    (xteInvalidTimes : PySem.W.typeIn K (.ref CInvalidTimes) = some (.type "type"))
    (xkeInvalidTimes : PySem.W.keepIn K (.ref CInvalidTimes) = true)
    (xgeInvalidTimes : PySem.W.findIn K (.ref CInvalidTimes) "__getattribute__" = some (some (.builtin "BaseException.__getattribute__")))
    (xGeInvalidTimes : PySem.W.findIn K (.ref CInvalidTimes) "__getattr__" = some none)
    (xceInvalidTimes : PySem.W.findIn K (.ref CInvalidTimes) "__class__" = some (some (.builtin "object.__class__")))
    (xmeInvalidTimes : PySem.W.mroIn K CInvalidTimes (.type "object") = some true)
    (xdeInvalidTimes : PySem.W.hasDictIn K CInvalidTimes = true)
    (xieInvalidTimes : PySem.W.isClsIn K CInvalidTimes = true)
    (nfeInvalidTimescount : PySem.W.findIn K (.ref CInvalidTimes) (PySem.Str.ofString "count") = some none)
    (nfeInvalidTimesfield : PySem.W.findIn K (.ref CInvalidTimes) (PySem.Str.ofString "field") = some none)
    (nfeInvalidTimesline : PySem.W.findIn K (.ref CInvalidTimes) (PySem.Str.ofString "line") = some none)
    (nfeInvalidTimessize : PySem.W.findIn K (.ref CInvalidTimes) (PySem.Str.ofString "size") = some none)
    (nfeInvalidTimesvalue : PySem.W.findIn K (.ref CInvalidTimes) (PySem.Str.ofString "value") = some none)
    (aeInvalidTimes : PySem.W.findIn K (.ref CInvalidTimes) "__init__" = some (some (.ref feInvalidTimes)))
    (teInvalidTimes : PySem.W.typeIn K (.ref feInvalidTimes) = some (.type "function"))
    (leInvalidTimes : K.lookup feInvalidTimes = some ⟨oceInvalidTimes, odeInvalidTimes, .func (PySem.W.fnOf "__init__" "InvalidTimes.__init__" (defArgs s_e_InvalidTimes) (defBody s_e_InvalidTimes) (defScope s_e_InvalidTimes) .none kVeInvalidTimes dceInvalidTimes pmeInvalidTimes aneInvalidTimes cdeInvalidTimes cteInvalidTimes), sleInvalidTimes⟩)
    (ceInvalidTimes : PySem.W.codeIn K cdeInvalidTimes "InvalidTimes.__init__" = true)
    (keInvalidTimes : PySem.W.keepIn K (.ref feInvalidTimes) = true)
    (gCNothingToUndo : PySem.W.nsIn K mainGlobals "NothingToUndo" = some (some (.ref CNothingToUndo)))
    (oeNothingToUndo : K.lookup CNothingToUndo = some (PySem.excClassObj nmeNothingToUndo qeNothingToUndo CNothingToUndo NeNothingToUndo bseNothingToUndo bmeNothingToUndo true sneNothingToUndo sbeNothingToUndo abeNothingToUndo coeNothingToUndo ddeNothingToUndo m0eNothingToUndo m1eNothingToUndo m2eNothingToUndo m3eNothingToUndo m5eNothingToUndo "ValueError.__new__"))
    (vEeNothingToUndo : PySem.HandSPX.refsVE bmeNothingToUndo = true)
    (saeNothingToUndo : PySem.W.findIn K (.ref CNothingToUndo) "__setattr__" = some (some (.builtin "object.__setattr__")))
    (xbeNothingToUndo : PySem.W.subIn K (.ref CNothingToUndo) (.type "BaseException") = some true)
    (xteNothingToUndo : PySem.W.typeIn K (.ref CNothingToUndo) = some (.type "type"))
    (xkeNothingToUndo : PySem.W.keepIn K (.ref CNothingToUndo) = true)
    (xgeNothingToUndo : PySem.W.findIn K (.ref CNothingToUndo) "__getattribute__" = some (some (.builtin "BaseException.__getattribute__")))
    (xGeNothingToUndo : PySem.W.findIn K (.ref CNothingToUndo) "__getattr__" = some none)
    (xceNothingToUndo : PySem.W.findIn K (.ref CNothingToUndo) "__class__" = some (some (.builtin "object.__class__")))
    (xmeNothingToUndo : PySem.W.mroIn K CNothingToUndo (.type "object") = some true)
    (xdeNothingToUndo : PySem.W.hasDictIn K CNothingToUndo = true)
    (xieNothingToUndo : PySem.W.isClsIn K CNothingToUndo = true)
    (nfeNothingToUndocount : PySem.W.findIn K (.ref CNothingToUndo) (PySem.Str.ofString "count") = some none)
    (nfeNothingToUndofield : PySem.W.findIn K (.ref CNothingToUndo) (PySem.Str.ofString "field") = some none)
    (nfeNothingToUndoline : PySem.W.findIn K (.ref CNothingToUndo) (PySem.Str.ofString "line") = some none)
    (nfeNothingToUndosize : PySem.W.findIn K (.ref CNothingToUndo) (PySem.Str.ofString "size") = some none)
    (nfeNothingToUndovalue : PySem.W.findIn K (.ref CNothingToUndo) (PySem.Str.ofString "value") = some none)
    (xneNothingToUndo : PySem.W.excIn K CNothingToUndo [.type "ValueError", .type "Exception", .type "BaseException", .type "object"] "ValueError.__new__" = true)
    (gCParseError : PySem.W.nsIn K mainGlobals "ParseError" = some (some (.ref CParseError)))
    (oeParseError : K.lookup CParseError = some (PySem.excClassObj nmeParseError qeParseError CParseError NeParseError bseParseError bmeParseError true sneParseError sbeParseError abeParseError coeParseError ddeParseError m0eParseError m1eParseError m2eParseError m3eParseError m5eParseError "ValueError.__new__"))
    (vEeParseError : PySem.HandSPX.refsVE bmeParseError = true)
    (saeParseError : PySem.W.findIn K (.ref CParseError) "__setattr__" = some (some (.builtin "object.__setattr__")))
    (xbeParseError : PySem.W.subIn K (.ref CParseError) (.type "BaseException") = some true)
    (xteParseError : PySem.W.typeIn K (.ref CParseError) = some (.type "type"))
    (xkeParseError : PySem.W.keepIn K (.ref CParseError) = true)
    (xgeParseError : PySem.W.findIn K (.ref CParseError) "__getattribute__" = some (some (.builtin "BaseException.__getattribute__")))
    (xGeParseError : PySem.W.findIn K (.ref CParseError) "__getattr__" = some none)
    (xceParseError : PySem.W.findIn K (.ref CParseError) "__class__" = some (some (.builtin "object.__class__")))
    (xmeParseError : PySem.W.mroIn K CParseError (.type "object") = some true)
    (xdeParseError : PySem.W.hasDictIn K CParseError = true)
    (xieParseError : PySem.W.isClsIn K CParseError = true)
    (nfeParseErrorcount : PySem.W.findIn K (.ref CParseError) (PySem.Str.ofString "count") = some none)
    (nfeParseErrorfield : PySem.W.findIn K (.ref CParseError) (PySem.Str.ofString "field") = some none)
    (nfeParseErrorline : PySem.W.findIn K (.ref CParseError) (PySem.Str.ofString "line") = some none)
    (nfeParseErrorsize : PySem.W.findIn K (.ref CParseError) (PySem.Str.ofString "size") = some none)
    (nfeParseErrorvalue : PySem.W.findIn K (.ref CParseError) (PySem.Str.ofString "value") = some none)
    (aeParseError : PySem.W.findIn K (.ref CParseError) "__init__" = some (some (.ref feParseError)))
    (teParseError : PySem.W.typeIn K (.ref feParseError) = some (.type "function"))
    (leParseError : K.lookup feParseError = some ⟨oceParseError, odeParseError, .func (PySem.W.fnOf "__init__" "ParseError.__init__" (defArgs s_e_ParseError) (defBody s_e_ParseError) (defScope s_e_ParseError) .none kVeParseError dceParseError pmeParseError aneParseError cdeParseError cteParseError), sleParseError⟩)
    (ceParseError : PySem.W.codeIn K cdeParseError "ParseError.__init__" = true)
    (keParseError : PySem.W.keepIn K (.ref feParseError) = true)
    (gCTooLong : PySem.W.nsIn K mainGlobals "TooLong" = some (some (.ref CTooLong)))
    (oeTooLong : K.lookup CTooLong = some (PySem.excClassObj nmeTooLong qeTooLong CTooLong NeTooLong bseTooLong bmeTooLong true sneTooLong sbeTooLong abeTooLong coeTooLong ddeTooLong m0eTooLong m1eTooLong m2eTooLong m3eTooLong m5eTooLong "ValueError.__new__"))
    (vEeTooLong : PySem.HandSPX.refsVE bmeTooLong = true)
    (saeTooLong : PySem.W.findIn K (.ref CTooLong) "__setattr__" = some (some (.builtin "object.__setattr__")))
    (xbeTooLong : PySem.W.subIn K (.ref CTooLong) (.type "BaseException") = some true)
    (xteTooLong : PySem.W.typeIn K (.ref CTooLong) = some (.type "type"))
    (xkeTooLong : PySem.W.keepIn K (.ref CTooLong) = true)
    (xgeTooLong : PySem.W.findIn K (.ref CTooLong) "__getattribute__" = some (some (.builtin "BaseException.__getattribute__")))
    (xGeTooLong : PySem.W.findIn K (.ref CTooLong) "__getattr__" = some none)
    (xceTooLong : PySem.W.findIn K (.ref CTooLong) "__class__" = some (some (.builtin "object.__class__")))
    (xmeTooLong : PySem.W.mroIn K CTooLong (.type "object") = some true)
    (xdeTooLong : PySem.W.hasDictIn K CTooLong = true)
    (xieTooLong : PySem.W.isClsIn K CTooLong = true)
    (nfeTooLongcount : PySem.W.findIn K (.ref CTooLong) (PySem.Str.ofString "count") = some none)
    (nfeTooLongfield : PySem.W.findIn K (.ref CTooLong) (PySem.Str.ofString "field") = some none)
    (nfeTooLongline : PySem.W.findIn K (.ref CTooLong) (PySem.Str.ofString "line") = some none)
    (nfeTooLongsize : PySem.W.findIn K (.ref CTooLong) (PySem.Str.ofString "size") = some none)
    (nfeTooLongvalue : PySem.W.findIn K (.ref CTooLong) (PySem.Str.ofString "value") = some none)
    (aeTooLong : PySem.W.findIn K (.ref CTooLong) "__init__" = some (some (.ref feTooLong)))
    (teTooLong : PySem.W.typeIn K (.ref feTooLong) = some (.type "function"))
    (leTooLong : K.lookup feTooLong = some ⟨oceTooLong, odeTooLong, .func (PySem.W.fnOf "__init__" "TooLong.__init__" (defArgs s_e_TooLong) (defBody s_e_TooLong) (defScope s_e_TooLong) .none kVeTooLong dceTooLong pmeTooLong aneTooLong cdeTooLong cteTooLong), sleTooLong⟩)
    (ceTooLong : PySem.W.codeIn K cdeTooLong "TooLong.__init__" = true)
    (keTooLong : PySem.W.keepIn K (.ref feTooLong) = true)
    (gCTooManyStates : PySem.W.nsIn K mainGlobals "TooManyStates" = some (some (.ref CTooManyStates)))
    (oeTooManyStates : K.lookup CTooManyStates = some (PySem.excClassObj nmeTooManyStates qeTooManyStates CTooManyStates NeTooManyStates bseTooManyStates bmeTooManyStates true sneTooManyStates sbeTooManyStates abeTooManyStates coeTooManyStates ddeTooManyStates m0eTooManyStates m1eTooManyStates m2eTooManyStates m3eTooManyStates m5eTooManyStates "ValueError.__new__"))
    (vEeTooManyStates : PySem.HandSPX.refsVE bmeTooManyStates = true)
    (saeTooManyStates : PySem.W.findIn K (.ref CTooManyStates) "__setattr__" = some (some (.builtin "object.__setattr__")))
    (xbeTooManyStates : PySem.W.subIn K (.ref CTooManyStates) (.type "BaseException") = some true)
    (xteTooManyStates : PySem.W.typeIn K (.ref CTooManyStates) = some (.type "type"))
    (xkeTooManyStates : PySem.W.keepIn K (.ref CTooManyStates) = true)
    (xgeTooManyStates : PySem.W.findIn K (.ref CTooManyStates) "__getattribute__" = some (some (.builtin "BaseException.__getattribute__")))
    (xGeTooManyStates : PySem.W.findIn K (.ref CTooManyStates) "__getattr__" = some none)
    (xceTooManyStates : PySem.W.findIn K (.ref CTooManyStates) "__class__" = some (some (.builtin "object.__class__")))
    (xmeTooManyStates : PySem.W.mroIn K CTooManyStates (.type "object") = some true)
    (xdeTooManyStates : PySem.W.hasDictIn K CTooManyStates = true)
    (xieTooManyStates : PySem.W.isClsIn K CTooManyStates = true)
    (nfeTooManyStatescount : PySem.W.findIn K (.ref CTooManyStates) (PySem.Str.ofString "count") = some none)
    (nfeTooManyStatesfield : PySem.W.findIn K (.ref CTooManyStates) (PySem.Str.ofString "field") = some none)
    (nfeTooManyStatesline : PySem.W.findIn K (.ref CTooManyStates) (PySem.Str.ofString "line") = some none)
    (nfeTooManyStatessize : PySem.W.findIn K (.ref CTooManyStates) (PySem.Str.ofString "size") = some none)
    (nfeTooManyStatesvalue : PySem.W.findIn K (.ref CTooManyStates) (PySem.Str.ofString "value") = some none)
    (aeTooManyStates : PySem.W.findIn K (.ref CTooManyStates) "__init__" = some (some (.ref feTooManyStates)))
    (teTooManyStates : PySem.W.typeIn K (.ref feTooManyStates) = some (.type "function"))
    (leTooManyStates : K.lookup feTooManyStates = some ⟨oceTooManyStates, odeTooManyStates, .func (PySem.W.fnOf "__init__" "TooManyStates.__init__" (defArgs s_e_TooManyStates) (defBody s_e_TooManyStates) (defScope s_e_TooManyStates) .none kVeTooManyStates dceTooManyStates pmeTooManyStates aneTooManyStates cdeTooManyStates cteTooManyStates), sleTooManyStates⟩)
    (ceTooManyStates : PySem.W.codeIn K cdeTooManyStates "TooManyStates.__init__" = true)
    (keTooManyStates : PySem.W.keepIn K (.ref feTooManyStates) = true)
    (gCOverlapError : PySem.W.nsIn K mainGlobals "OverlapError" = some (some (.ref COverlapError)))
    (oeOverlapError : K.lookup COverlapError = some (PySem.excClassObj nmeOverlapError qeOverlapError COverlapError NeOverlapError bseOverlapError bmeOverlapError true sneOverlapError sbeOverlapError abeOverlapError coeOverlapError ddeOverlapError m0eOverlapError m1eOverlapError m2eOverlapError m3eOverlapError m5eOverlapError "ValueError.__new__"))
    (vEeOverlapError : PySem.HandSPX.refsVE bmeOverlapError = true)
    (saeOverlapError : PySem.W.findIn K (.ref COverlapError) "__setattr__" = some (some (.builtin "object.__setattr__")))
    (xbeOverlapError : PySem.W.subIn K (.ref COverlapError) (.type "BaseException") = some true)
    (xteOverlapError : PySem.W.typeIn K (.ref COverlapError) = some (.type "type"))
    (xkeOverlapError : PySem.W.keepIn K (.ref COverlapError) = true)
    (xgeOverlapError : PySem.W.findIn K (.ref COverlapError) "__getattribute__" = some (some (.builtin "BaseException.__getattribute__")))
    (xGeOverlapError : PySem.W.findIn K (.ref COverlapError) "__getattr__" = some none)
    (xceOverlapError : PySem.W.findIn K (.ref COverlapError) "__class__" = some (some (.builtin "object.__class__")))
    (xmeOverlapError : PySem.W.mroIn K COverlapError (.type "object") = some true)
    (xdeOverlapError : PySem.W.hasDictIn K COverlapError = true)
    (xieOverlapError : PySem.W.isClsIn K COverlapError = true)
    (nfeOverlapErrorcount : PySem.W.findIn K (.ref COverlapError) (PySem.Str.ofString "count") = some none)
    (nfeOverlapErrorfield : PySem.W.findIn K (.ref COverlapError) (PySem.Str.ofString "field") = some none)
    (nfeOverlapErrorline : PySem.W.findIn K (.ref COverlapError) (PySem.Str.ofString "line") = some none)
    (nfeOverlapErrorsize : PySem.W.findIn K (.ref COverlapError) (PySem.Str.ofString "size") = some none)
    (nfeOverlapErrorvalue : PySem.W.findIn K (.ref COverlapError) (PySem.Str.ofString "value") = some none)
    (xneOverlapError : PySem.W.excIn K COverlapError [.type "ValueError", .type "Exception", .type "BaseException", .type "object"] "ValueError.__new__" = true)
    (xcg : PySem.W.specialIn K (.builtin "object.__class__") "__get__" = some (some (.builtin "getset_descriptor.__get__")))
    (xct : PySem.W.takesIn K (.builtin "object.__class__") = some true)
    (kt_CommandError_CommandError : PySem.W.kitOne K (.ref CCommandError) (.ref CCommandError) = some true)
    (kt_InvalidCode_CommandError : PySem.W.kitOne K (.ref CInvalidCode) (.ref CCommandError) = some false)
    (kt_InvalidCountdowns_CommandError : PySem.W.kitOne K (.ref CInvalidCountdowns) (.ref CCommandError) = some false)
    (kt_InvalidEntries_CommandError : PySem.W.kitOne K (.ref CInvalidEntries) (.ref CCommandError) = some false)
    (kt_InvalidEntry_CommandError : PySem.W.kitOne K (.ref CInvalidEntry) (.ref CCommandError) = some false)
    (kt_InvalidInstructionSet_CommandError : PySem.W.kitOne K (.ref CInvalidInstructionSet) (.ref CCommandError) = some false)
    (kt_InvalidLengths_CommandError : PySem.W.kitOne K (.ref CInvalidLengths) (.ref CCommandError) = some false)
    (kt_InvalidNumber_CommandError : PySem.W.kitOne K (.ref CInvalidNumber) (.ref CCommandError) = some false)
    (kt_InvalidOffset_CommandError : PySem.W.kitOne K (.ref CInvalidOffset) (.ref CCommandError) = some false)
    (kt_InvalidProgram_CommandError : PySem.W.kitOne K (.ref CInvalidProgram) (.ref CCommandError) = some false)
    (kt_InvalidTimes_CommandError : PySem.W.kitOne K (.ref CInvalidTimes) (.ref CCommandError) = some false)
    (kt_NothingToUndo_CommandError : PySem.W.kitOne K (.ref CNothingToUndo) (.ref CCommandError) = some false)
    (kt_ParseError_CommandError : PySem.W.kitOne K (.ref CParseError) (.ref CCommandError) = some false)
    (kt_TooLong_CommandError : PySem.W.kitOne K (.ref CTooLong) (.ref CCommandError) = some false)
    (kt_TooManyStates_CommandError : PySem.W.kitOne K (.ref CTooManyStates) (.ref CCommandError) = some false)
    (kt_OverlapError_CommandError : PySem.W.kitOne K (.ref COverlapError) (.ref CCommandError) = some false)
    (kt_CommandError_InvalidCode : PySem.W.kitOne K (.ref CCommandError) (.ref CInvalidCode) = some false)
    (kt_InvalidCode_InvalidCode : PySem.W.kitOne K (.ref CInvalidCode) (.ref CInvalidCode) = some true)
    (kt_InvalidCountdowns_InvalidCode : PySem.W.kitOne K (.ref CInvalidCountdowns) (.ref CInvalidCode) = some false)
    (kt_InvalidEntries_InvalidCode : PySem.W.kitOne K (.ref CInvalidEntries) (.ref CInvalidCode) = some false)
    (kt_InvalidEntry_InvalidCode : PySem.W.kitOne K (.ref CInvalidEntry) (.ref CInvalidCode) = some false)
    (kt_InvalidInstructionSet_InvalidCode : PySem.W.kitOne K (.ref CInvalidInstructionSet) (.ref CInvalidCode) = some false)
    (kt_InvalidLengths_InvalidCode : PySem.W.kitOne K (.ref CInvalidLengths) (.ref CInvalidCode) = some false)
    (kt_InvalidNumber_InvalidCode : PySem.W.kitOne K (.ref CInvalidNumber) (.ref CInvalidCode) = some false)
    (kt_InvalidOffset_InvalidCode : PySem.W.kitOne K (.ref CInvalidOffset) (.ref CInvalidCode) = some false)
    (kt_InvalidProgram_InvalidCode : PySem.W.kitOne K (.ref CInvalidProgram) (.ref CInvalidCode) = some false)
    (kt_InvalidTimes_InvalidCode : PySem.W.kitOne K (.ref CInvalidTimes) (.ref CInvalidCode) = some false)
    (kt_NothingToUndo_InvalidCode : PySem.W.kitOne K (.ref CNothingToUndo) (.ref CInvalidCode) = some false)
    (kt_ParseError_InvalidCode : PySem.W.kitOne K (.ref CParseError) (.ref CInvalidCode) = some false)
    (kt_TooLong_InvalidCode : PySem.W.kitOne K (.ref CTooLong) (.ref CInvalidCode) = some false)
    (kt_TooManyStates_InvalidCode : PySem.W.kitOne K (.ref CTooManyStates) (.ref CInvalidCode) = some false)
    (kt_OverlapError_InvalidCode : PySem.W.kitOne K (.ref COverlapError) (.ref CInvalidCode) = some false)
    (kt_CommandError_InvalidCountdowns : PySem.W.kitOne K (.ref CCommandError) (.ref CInvalidCountdowns) = some false)
    (kt_InvalidCode_InvalidCountdowns : PySem.W.kitOne K (.ref CInvalidCode) (.ref CInvalidCountdowns) = some false)
    (kt_InvalidCountdowns_InvalidCountdowns : PySem.W.kitOne K (.ref CInvalidCountdowns) (.ref CInvalidCountdowns) = some true)
    (kt_InvalidEntries_InvalidCountdowns : PySem.W.kitOne K (.ref CInvalidEntries) (.ref CInvalidCountdowns) = some false)
    (kt_InvalidEntry_InvalidCountdowns : PySem.W.kitOne K (.ref CInvalidEntry) (.ref CInvalidCountdowns) = some false)
    (kt_InvalidInstructionSet_InvalidCountdowns : PySem.W.kitOne K (.ref CInvalidInstructionSet) (.ref CInvalidCountdowns) = some false)
    (kt_InvalidLengths_InvalidCountdowns : PySem.W.kitOne K (.ref CInvalidLengths) (.ref CInvalidCountdowns) = some false)
    (kt_InvalidNumber_InvalidCountdowns : PySem.W.kitOne K (.ref CInvalidNumber) (.ref CInvalidCountdowns) = some false)
    (kt_InvalidOffset_InvalidCountdowns : PySem.W.kitOne K (.ref CInvalidOffset) (.ref CInvalidCountdowns) = some false)
    (kt_InvalidProgram_InvalidCountdowns : PySem.W.kitOne K (.ref CInvalidProgram) (.ref CInvalidCountdowns) = some false)
    (kt_InvalidTimes_InvalidCountdowns : PySem.W.kitOne K (.ref CInvalidTimes) (.ref CInvalidCountdowns) = some false)
    (kt_NothingToUndo_InvalidCountdowns : PySem.W.kitOne K (.ref CNothingToUndo) (.ref CInvalidCountdowns) = some false)
    (kt_ParseError_InvalidCountdowns : PySem.W.kitOne K (.ref CParseError) (.ref CInvalidCountdowns) = some false)
    (kt_TooLong_InvalidCountdowns : PySem.W.kitOne K (.ref CTooLong) (.ref CInvalidCountdowns) = some false)
    (kt_TooManyStates_InvalidCountdowns : PySem.W.kitOne K (.ref CTooManyStates) (.ref CInvalidCountdowns) = some false)
    (kt_OverlapError_InvalidCountdowns : PySem.W.kitOne K (.ref COverlapError) (.ref CInvalidCountdowns) = some false)
    (kt_CommandError_InvalidEntries : PySem.W.kitOne K (.ref CCommandError) (.ref CInvalidEntries) = some false)
    (kt_InvalidCode_InvalidEntries : PySem.W.kitOne K (.ref CInvalidCode) (.ref CInvalidEntries) = some false)
    (kt_InvalidCountdowns_InvalidEntries : PySem.W.kitOne K (.ref CInvalidCountdowns) (.ref CInvalidEntries) = some false)
    (kt_InvalidEntries_InvalidEntries : PySem.W.kitOne K (.ref CInvalidEntries) (.ref CInvalidEntries) = some true)
    (kt_InvalidEntry_InvalidEntries : PySem.W.kitOne K (.ref CInvalidEntry) (.ref CInvalidEntries) = some false)
    (kt_InvalidInstructionSet_InvalidEntries : PySem.W.kitOne K (.ref CInvalidInstructionSet) (.ref CInvalidEntries) = some false)
    (kt_InvalidLengths_InvalidEntries : PySem.W.kitOne K (.ref CInvalidLengths) (.ref CInvalidEntries) = some false)
    (kt_InvalidNumber_InvalidEntries : PySem.W.kitOne K (.ref CInvalidNumber) (.ref CInvalidEntries) = some false)
    (kt_InvalidOffset_InvalidEntries : PySem.W.kitOne K (.ref CInvalidOffset) (.ref CInvalidEntries) = some false)
    (kt_InvalidProgram_InvalidEntries : PySem.W.kitOne K (.ref CInvalidProgram) (.ref CInvalidEntries) = some false)
    (kt_InvalidTimes_InvalidEntries : PySem.W.kitOne K (.ref CInvalidTimes) (.ref CInvalidEntries) = some false)
    (kt_NothingToUndo_InvalidEntries : PySem.W.kitOne K (.ref CNothingToUndo) (.ref CInvalidEntries) = some false)
    (kt_ParseError_InvalidEntries : PySem.W.kitOne K (.ref CParseError) (.ref CInvalidEntries) = some false)
    (kt_TooLong_InvalidEntries : PySem.W.kitOne K (.ref CTooLong) (.ref CInvalidEntries) = some false)
    (kt_TooManyStates_InvalidEntries : PySem.W.kitOne K (.ref CTooManyStates) (.ref CInvalidEntries) = some false)
    (kt_OverlapError_InvalidEntries : PySem.W.kitOne K (.ref COverlapError) (.ref CInvalidEntries) = some false)
    (kt_CommandError_InvalidEntry : PySem.W.kitOne K (.ref CCommandError) (.ref CInvalidEntry) = some false)
    (kt_InvalidCode_InvalidEntry : PySem.W.kitOne K (.ref CInvalidCode) (.ref CInvalidEntry) = some false)
    (kt_InvalidCountdowns_InvalidEntry : PySem.W.kitOne K (.ref CInvalidCountdowns) (.ref CInvalidEntry) = some false)
    (kt_InvalidEntries_InvalidEntry : PySem.W.kitOne K (.ref CInvalidEntries) (.ref CInvalidEntry) = some false)
    (kt_InvalidEntry_InvalidEntry : PySem.W.kitOne K (.ref CInvalidEntry) (.ref CInvalidEntry) = some true)
    (kt_InvalidInstructionSet_InvalidEntry : PySem.W.kitOne K (.ref CInvalidInstructionSet) (.ref CInvalidEntry) = some false)
    (kt_InvalidLengths_InvalidEntry : PySem.W.kitOne K (.ref CInvalidLengths) (.ref CInvalidEntry) = some false)
    (kt_InvalidNumber_InvalidEntry : PySem.W.kitOne K (.ref CInvalidNumber) (.ref CInvalidEntry) = some false)
    (kt_InvalidOffset_InvalidEntry : PySem.W.kitOne K (.ref CInvalidOffset) (.ref CInvalidEntry) = some false)
    (kt_InvalidProgram_InvalidEntry : PySem.W.kitOne K (.ref CInvalidProgram) (.ref CInvalidEntry) = some false)
    (kt_InvalidTimes_InvalidEntry : PySem.W.kitOne K (.ref CInvalidTimes) (.ref CInvalidEntry) = some false)
    (kt_NothingToUndo_InvalidEntry : PySem.W.kitOne K (.ref CNothingToUndo) (.ref CInvalidEntry) = some false)
    (kt_ParseError_InvalidEntry : PySem.W.kitOne K (.ref CParseError) (.ref CInvalidEntry) = some false)
    (kt_TooLong_InvalidEntry : PySem.W.kitOne K (.ref CTooLong) (.ref CInvalidEntry) = some false)
    (kt_TooManyStates_InvalidEntry : PySem.W.kitOne K (.ref CTooManyStates) (.ref CInvalidEntry) = some false)
    (kt_OverlapError_InvalidEntry : PySem.W.kitOne K (.ref COverlapError) (.ref CInvalidEntry) = some false)
    (kt_CommandError_InvalidInstructionSet : PySem.W.kitOne K (.ref CCommandError) (.ref CInvalidInstructionSet) = some false)
    (kt_InvalidCode_InvalidInstructionSet : PySem.W.kitOne K (.ref CInvalidCode) (.ref CInvalidInstructionSet) = some false)
    (kt_InvalidCountdowns_InvalidInstructionSet : PySem.W.kitOne K (.ref CInvalidCountdowns) (.ref CInvalidInstructionSet) = some false)
    (kt_InvalidEntries_InvalidInstructionSet : PySem.W.kitOne K (.ref CInvalidEntries) (.ref CInvalidInstructionSet) = some false)
    (kt_InvalidEntry_InvalidInstructionSet : PySem.W.kitOne K (.ref CInvalidEntry) (.ref CInvalidInstructionSet) = some false)
    (kt_InvalidInstructionSet_InvalidInstructionSet : PySem.W.kitOne K (.ref CInvalidInstructionSet) (.ref CInvalidInstructionSet) = some true)
    (kt_InvalidLengths_InvalidInstructionSet : PySem.W.kitOne K (.ref CInvalidLengths) (.ref CInvalidInstructionSet) = some false)
    (kt_InvalidNumber_InvalidInstructionSet : PySem.W.kitOne K (.ref CInvalidNumber) (.ref CInvalidInstructionSet) = some false)
    (kt_InvalidOffset_InvalidInstructionSet : PySem.W.kitOne K (.ref CInvalidOffset) (.ref CInvalidInstructionSet) = some false)
    (kt_InvalidProgram_InvalidInstructionSet : PySem.W.kitOne K (.ref CInvalidProgram) (.ref CInvalidInstructionSet) = some false)
    (kt_InvalidTimes_InvalidInstructionSet : PySem.W.kitOne K (.ref CInvalidTimes) (.ref CInvalidInstructionSet) = some false)
    (kt_NothingToUndo_InvalidInstructionSet : PySem.W.kitOne K (.ref CNothingToUndo) (.ref CInvalidInstructionSet) = some false)
    (kt_ParseError_InvalidInstructionSet : PySem.W.kitOne K (.ref CParseError) (.ref CInvalidInstructionSet) = some false)
    (kt_TooLong_InvalidInstructionSet : PySem.W.kitOne K (.ref CTooLong) (.ref CInvalidInstructionSet) = some false)
    (kt_TooManyStates_InvalidInstructionSet : PySem.W.kitOne K (.ref CTooManyStates) (.ref CInvalidInstructionSet) = some false)
    (kt_OverlapError_InvalidInstructionSet : PySem.W.kitOne K (.ref COverlapError) (.ref CInvalidInstructionSet) = some false)
    (kt_CommandError_InvalidLengths : PySem.W.kitOne K (.ref CCommandError) (.ref CInvalidLengths) = some false)
    (kt_InvalidCode_InvalidLengths : PySem.W.kitOne K (.ref CInvalidCode) (.ref CInvalidLengths) = some false)
    (kt_InvalidCountdowns_InvalidLengths : PySem.W.kitOne K (.ref CInvalidCountdowns) (.ref CInvalidLengths) = some false)
    (kt_InvalidEntries_InvalidLengths : PySem.W.kitOne K (.ref CInvalidEntries) (.ref CInvalidLengths) = some false)
    (kt_InvalidEntry_InvalidLengths : PySem.W.kitOne K (.ref CInvalidEntry) (.ref CInvalidLengths) = some false)
    (kt_InvalidInstructionSet_InvalidLengths : PySem.W.kitOne K (.ref CInvalidInstructionSet) (.ref CInvalidLengths) = some false)
    (kt_InvalidLengths_InvalidLengths : PySem.W.kitOne K (.ref CInvalidLengths) (.ref CInvalidLengths) = some true)
    (kt_InvalidNumber_InvalidLengths : PySem.W.kitOne K (.ref CInvalidNumber) (.ref CInvalidLengths) = some false)
    (kt_InvalidOffset_InvalidLengths : PySem.W.kitOne K (.ref CInvalidOffset) (.ref CInvalidLengths) = some false)
    (kt_InvalidProgram_InvalidLengths : PySem.W.kitOne K (.ref CInvalidProgram) (.ref CInvalidLengths) = some false)
    (kt_InvalidTimes_InvalidLengths : PySem.W.kitOne K (.ref CInvalidTimes) (.ref CInvalidLengths) = some false)
    (kt_NothingToUndo_InvalidLengths : PySem.W.kitOne K (.ref CNothingToUndo) (.ref CInvalidLengths) = some false)
    (kt_ParseError_InvalidLengths : PySem.W.kitOne K (.ref CParseError) (.ref CInvalidLengths) = some false)
    (kt_TooLong_InvalidLengths : PySem.W.kitOne K (.ref CTooLong) (.ref CInvalidLengths) = some false)
    (kt_TooManyStates_InvalidLengths : PySem.W.kitOne K (.ref CTooManyStates) (.ref CInvalidLengths) = some false)
    (kt_OverlapError_InvalidLengths : PySem.W.kitOne K (.ref COverlapError) (.ref CInvalidLengths) = some false)
    (kt_CommandError_InvalidNumber : PySem.W.kitOne K (.ref CCommandError) (.ref CInvalidNumber) = some false)
    (kt_InvalidCode_InvalidNumber : PySem.W.kitOne K (.ref CInvalidCode) (.ref CInvalidNumber) = some false)
    (kt_InvalidCountdowns_InvalidNumber : PySem.W.kitOne K (.ref CInvalidCountdowns) (.ref CInvalidNumber) = some false)
    (kt_InvalidEntries_InvalidNumber : PySem.W.kitOne K (.ref CInvalidEntries) (.ref CInvalidNumber) = some false)
    (kt_InvalidEntry_InvalidNumber : PySem.W.kitOne K (.ref CInvalidEntry) (.ref CInvalidNumber) = some false)
    (kt_InvalidInstructionSet_InvalidNumber : PySem.W.kitOne K (.ref CInvalidInstructionSet) (.ref CInvalidNumber) = some false)
    (kt_InvalidLengths_InvalidNumber : PySem.W.kitOne K (.ref CInvalidLengths) (.ref CInvalidNumber) = some false)
    (kt_InvalidNumber_InvalidNumber : PySem.W.kitOne K (.ref CInvalidNumber) (.ref CInvalidNumber) = some true)
    (kt_InvalidOffset_InvalidNumber : PySem.W.kitOne K (.ref CInvalidOffset) (.ref CInvalidNumber) = some false)
    (kt_InvalidProgram_InvalidNumber : PySem.W.kitOne K (.ref CInvalidProgram) (.ref CInvalidNumber) = some false)
    (kt_InvalidTimes_InvalidNumber : PySem.W.kitOne K (.ref CInvalidTimes) (.ref CInvalidNumber) = some false)
    (kt_NothingToUndo_InvalidNumber : PySem.W.kitOne K (.ref CNothingToUndo) (.ref CInvalidNumber) = some false)
    (kt_ParseError_InvalidNumber : PySem.W.kitOne K (.ref CParseError) (.ref CInvalidNumber) = some false)
    (kt_TooLong_InvalidNumber : PySem.W.kitOne K (.ref CTooLong) (.ref CInvalidNumber) = some false)
    (kt_TooManyStates_InvalidNumber : PySem.W.kitOne K (.ref CTooManyStates) (.ref CInvalidNumber) = some false)
    (kt_OverlapError_InvalidNumber : PySem.W.kitOne K (.ref COverlapError) (.ref CInvalidNumber) = some false)
    (kt_CommandError_InvalidOffset : PySem.W.kitOne K (.ref CCommandError) (.ref CInvalidOffset) = some false)
    (kt_InvalidCode_InvalidOffset : PySem.W.kitOne K (.ref CInvalidCode) (.ref CInvalidOffset) = some false)
    (kt_InvalidCountdowns_InvalidOffset : PySem.W.kitOne K (.ref CInvalidCountdowns) (.ref CInvalidOffset) = some false)
    (kt_InvalidEntries_InvalidOffset : PySem.W.kitOne K (.ref CInvalidEntries) (.ref CInvalidOffset) = some false)
    (kt_InvalidEntry_InvalidOffset : PySem.W.kitOne K (.ref CInvalidEntry) (.ref CInvalidOffset) = some false)
    (kt_InvalidInstructionSet_InvalidOffset : PySem.W.kitOne K (.ref CInvalidInstructionSet) (.ref CInvalidOffset) = some false)
    (kt_InvalidLengths_InvalidOffset : PySem.W.kitOne K (.ref CInvalidLengths) (.ref CInvalidOffset) = some false)
    (kt_InvalidNumber_InvalidOffset : PySem.W.kitOne K (.ref CInvalidNumber) (.ref CInvalidOffset) = some false)
    (kt_InvalidOffset_InvalidOffset : PySem.W.kitOne K (.ref CInvalidOffset) (.ref CInvalidOffset) = some true)
    (kt_InvalidProgram_InvalidOffset : PySem.W.kitOne K (.ref CInvalidProgram) (.ref CInvalidOffset) = some false)
    (kt_InvalidTimes_InvalidOffset : PySem.W.kitOne K (.ref CInvalidTimes) (.ref CInvalidOffset) = some false)
    (kt_NothingToUndo_InvalidOffset : PySem.W.kitOne K (.ref CNothingToUndo) (.ref CInvalidOffset) = some false)
    (kt_ParseError_InvalidOffset : PySem.W.kitOne K (.ref CParseError) (.ref CInvalidOffset) = some false)
    (kt_TooLong_InvalidOffset : PySem.W.kitOne K (.ref CTooLong) (.ref CInvalidOffset) = some false)
    (kt_TooManyStates_InvalidOffset : PySem.W.kitOne K (.ref CTooManyStates) (.ref CInvalidOffset) = some false)
    (kt_OverlapError_InvalidOffset : PySem.W.kitOne K (.ref COverlapError) (.ref CInvalidOffset) = some false)
    (kt_CommandError_InvalidProgram : PySem.W.kitOne K (.ref CCommandError) (.ref CInvalidProgram) = some false)
    (kt_InvalidCode_InvalidProgram : PySem.W.kitOne K (.ref CInvalidCode) (.ref CInvalidProgram) = some false)
    (kt_InvalidCountdowns_InvalidProgram : PySem.W.kitOne K (.ref CInvalidCountdowns) (.ref CInvalidProgram) = some false)
    (kt_InvalidEntries_InvalidProgram : PySem.W.kitOne K (.ref CInvalidEntries) (.ref CInvalidProgram) = some false)
    (kt_InvalidEntry_InvalidProgram : PySem.W.kitOne K (.ref CInvalidEntry) (.ref CInvalidProgram) = some false)
    (kt_InvalidInstructionSet_InvalidProgram : PySem.W.kitOne K (.ref CInvalidInstructionSet) (.ref CInvalidProgram) = some false)
    (kt_InvalidLengths_InvalidProgram : PySem.W.kitOne K (.ref CInvalidLengths) (.ref CInvalidProgram) = some false)
    (kt_InvalidNumber_InvalidProgram : PySem.W.kitOne K (.ref CInvalidNumber) (.ref CInvalidProgram) = some false)
    (kt_InvalidOffset_InvalidProgram : PySem.W.kitOne K (.ref CInvalidOffset) (.ref CInvalidProgram) = some false)
    (kt_InvalidProgram_InvalidProgram : PySem.W.kitOne K (.ref CInvalidProgram) (.ref CInvalidProgram) = some true)
    (kt_InvalidTimes_InvalidProgram : PySem.W.kitOne K (.ref CInvalidTimes) (.ref CInvalidProgram) = some false)
    (kt_NothingToUndo_InvalidProgram : PySem.W.kitOne K (.ref CNothingToUndo) (.ref CInvalidProgram) = some false)
    (kt_ParseError_InvalidProgram : PySem.W.kitOne K (.ref CParseError) (.ref CInvalidProgram) = some false)
    (kt_TooLong_InvalidProgram : PySem.W.kitOne K (.ref CTooLong) (.ref CInvalidProgram) = some false)
    (kt_TooManyStates_InvalidProgram : PySem.W.kitOne K (.ref CTooManyStates) (.ref CInvalidProgram) = some false)
    (kt_OverlapError_InvalidProgram : PySem.W.kitOne K (.ref COverlapError) (.ref CInvalidProgram) = some false)
    (kt_CommandError_InvalidTimes : PySem.W.kitOne K (.ref CCommandError) (.ref CInvalidTimes) = some false)
    (kt_InvalidCode_InvalidTimes : PySem.W.kitOne K (.ref CInvalidCode) (.ref CInvalidTimes) = some false)
    (kt_InvalidCountdowns_InvalidTimes : PySem.W.kitOne K (.ref CInvalidCountdowns) (.ref CInvalidTimes) = some false)
    (kt_InvalidEntries_InvalidTimes : PySem.W.kitOne K (.ref CInvalidEntries) (.ref CInvalidTimes) = some false)
    (kt_InvalidEntry_InvalidTimes : PySem.W.kitOne K (.ref CInvalidEntry) (.ref CInvalidTimes) = some false)
    (kt_InvalidInstructionSet_InvalidTimes : PySem.W.kitOne K (.ref CInvalidInstructionSet) (.ref CInvalidTimes) = some false)
    (kt_InvalidLengths_InvalidTimes : PySem.W.kitOne K (.ref CInvalidLengths) (.ref CInvalidTimes) = some false)
    (kt_InvalidNumber_InvalidTimes : PySem.W.kitOne K (.ref CInvalidNumber) (.ref CInvalidTimes) = some false)
    (kt_InvalidOffset_InvalidTimes : PySem.W.kitOne K (.ref CInvalidOffset) (.ref CInvalidTimes) = some false)
    (kt_InvalidProgram_InvalidTimes : PySem.W.kitOne K (.ref CInvalidProgram) (.ref CInvalidTimes) = some false)
    (kt_InvalidTimes_InvalidTimes : PySem.W.kitOne K (.ref CInvalidTimes) (.ref CInvalidTimes) = some true)
    (kt_NothingToUndo_InvalidTimes : PySem.W.kitOne K (.ref CNothingToUndo) (.ref CInvalidTimes) = some false)
    (kt_ParseError_InvalidTimes : PySem.W.kitOne K (.ref CParseError) (.ref CInvalidTimes) = some false)
    (kt_TooLong_InvalidTimes : PySem.W.kitOne K (.ref CTooLong) (.ref CInvalidTimes) = some false)
    (kt_TooManyStates_InvalidTimes : PySem.W.kitOne K (.ref CTooManyStates) (.ref CInvalidTimes) = some false)
    (kt_OverlapError_InvalidTimes : PySem.W.kitOne K (.ref COverlapError) (.ref CInvalidTimes) = some false)
    (kt_CommandError_NothingToUndo : PySem.W.kitOne K (.ref CCommandError) (.ref CNothingToUndo) = some false)
    (kt_InvalidCode_NothingToUndo : PySem.W.kitOne K (.ref CInvalidCode) (.ref CNothingToUndo) = some false)
    (kt_InvalidCountdowns_NothingToUndo : PySem.W.kitOne K (.ref CInvalidCountdowns) (.ref CNothingToUndo) = some false)
    (kt_InvalidEntries_NothingToUndo : PySem.W.kitOne K (.ref CInvalidEntries) (.ref CNothingToUndo) = some false)
    (kt_InvalidEntry_NothingToUndo : PySem.W.kitOne K (.ref CInvalidEntry) (.ref CNothingToUndo) = some false)
    (kt_InvalidInstructionSet_NothingToUndo : PySem.W.kitOne K (.ref CInvalidInstructionSet) (.ref CNothingToUndo) = some false)
    (kt_InvalidLengths_NothingToUndo : PySem.W.kitOne K (.ref CInvalidLengths) (.ref CNothingToUndo) = some false)
    (kt_InvalidNumber_NothingToUndo : PySem.W.kitOne K (.ref CInvalidNumber) (.ref CNothingToUndo) = some false)
    (kt_InvalidOffset_NothingToUndo : PySem.W.kitOne K (.ref CInvalidOffset) (.ref CNothingToUndo) = some false)
    (kt_InvalidProgram_NothingToUndo : PySem.W.kitOne K (.ref CInvalidProgram) (.ref CNothingToUndo) = some false)
    (kt_InvalidTimes_NothingToUndo : PySem.W.kitOne K (.ref CInvalidTimes) (.ref CNothingToUndo) = some false)
    (kt_NothingToUndo_NothingToUndo : PySem.W.kitOne K (.ref CNothingToUndo) (.ref CNothingToUndo) = some true)
    (kt_ParseError_NothingToUndo : PySem.W.kitOne K (.ref CParseError) (.ref CNothingToUndo) = some false)
    (kt_TooLong_NothingToUndo : PySem.W.kitOne K (.ref CTooLong) (.ref CNothingToUndo) = some false)
    (kt_TooManyStates_NothingToUndo : PySem.W.kitOne K (.ref CTooManyStates) (.ref CNothingToUndo) = some false)
    (kt_OverlapError_NothingToUndo : PySem.W.kitOne K (.ref COverlapError) (.ref CNothingToUndo) = some false)
    (kt_CommandError_OverlapError : PySem.W.kitOne K (.ref CCommandError) (.ref COverlapError) = some true)
    (kt_InvalidCode_OverlapError : PySem.W.kitOne K (.ref CInvalidCode) (.ref COverlapError) = some true)
    (kt_InvalidCountdowns_OverlapError : PySem.W.kitOne K (.ref CInvalidCountdowns) (.ref COverlapError) = some true)
    (kt_InvalidEntries_OverlapError : PySem.W.kitOne K (.ref CInvalidEntries) (.ref COverlapError) = some true)
    (kt_InvalidEntry_OverlapError : PySem.W.kitOne K (.ref CInvalidEntry) (.ref COverlapError) = some true)
    (kt_InvalidInstructionSet_OverlapError : PySem.W.kitOne K (.ref CInvalidInstructionSet) (.ref COverlapError) = some true)
    (kt_InvalidLengths_OverlapError : PySem.W.kitOne K (.ref CInvalidLengths) (.ref COverlapError) = some true)
    (kt_InvalidNumber_OverlapError : PySem.W.kitOne K (.ref CInvalidNumber) (.ref COverlapError) = some true)
    (kt_InvalidOffset_OverlapError : PySem.W.kitOne K (.ref CInvalidOffset) (.ref COverlapError) = some true)
    (kt_InvalidProgram_OverlapError : PySem.W.kitOne K (.ref CInvalidProgram) (.ref COverlapError) = some true)
    (kt_InvalidTimes_OverlapError : PySem.W.kitOne K (.ref CInvalidTimes) (.ref COverlapError) = some true)
    (kt_NothingToUndo_OverlapError : PySem.W.kitOne K (.ref CNothingToUndo) (.ref COverlapError) = some true)
    (kt_ParseError_OverlapError : PySem.W.kitOne K (.ref CParseError) (.ref COverlapError) = some true)
    (kt_TooLong_OverlapError : PySem.W.kitOne K (.ref CTooLong) (.ref COverlapError) = some true)
    (kt_TooManyStates_OverlapError : PySem.W.kitOne K (.ref CTooManyStates) (.ref COverlapError) = some true)
    (kt_OverlapError_OverlapError : PySem.W.kitOne K (.ref COverlapError) (.ref COverlapError) = some true)
    (kt_CommandError_ParseError : PySem.W.kitOne K (.ref CCommandError) (.ref CParseError) = some false)
    (kt_InvalidCode_ParseError : PySem.W.kitOne K (.ref CInvalidCode) (.ref CParseError) = some false)
    (kt_InvalidCountdowns_ParseError : PySem.W.kitOne K (.ref CInvalidCountdowns) (.ref CParseError) = some false)
    (kt_InvalidEntries_ParseError : PySem.W.kitOne K (.ref CInvalidEntries) (.ref CParseError) = some false)
    (kt_InvalidEntry_ParseError : PySem.W.kitOne K (.ref CInvalidEntry) (.ref CParseError) = some false)
    (kt_InvalidInstructionSet_ParseError : PySem.W.kitOne K (.ref CInvalidInstructionSet) (.ref CParseError) = some false)
    (kt_InvalidLengths_ParseError : PySem.W.kitOne K (.ref CInvalidLengths) (.ref CParseError) = some false)
    (kt_InvalidNumber_ParseError : PySem.W.kitOne K (.ref CInvalidNumber) (.ref CParseError) = some false)
    (kt_InvalidOffset_ParseError : PySem.W.kitOne K (.ref CInvalidOffset) (.ref CParseError) = some false)
    (kt_InvalidProgram_ParseError : PySem.W.kitOne K (.ref CInvalidProgram) (.ref CParseError) = some false)
    (kt_InvalidTimes_ParseError : PySem.W.kitOne K (.ref CInvalidTimes) (.ref CParseError) = some false)
    (kt_NothingToUndo_ParseError : PySem.W.kitOne K (.ref CNothingToUndo) (.ref CParseError) = some false)
    (kt_ParseError_ParseError : PySem.W.kitOne K (.ref CParseError) (.ref CParseError) = some true)
    (kt_TooLong_ParseError : PySem.W.kitOne K (.ref CTooLong) (.ref CParseError) = some false)
    (kt_TooManyStates_ParseError : PySem.W.kitOne K (.ref CTooManyStates) (.ref CParseError) = some false)
    (kt_OverlapError_ParseError : PySem.W.kitOne K (.ref COverlapError) (.ref CParseError) = some false)
    (kt_CommandError_TooLong : PySem.W.kitOne K (.ref CCommandError) (.ref CTooLong) = some false)
    (kt_InvalidCode_TooLong : PySem.W.kitOne K (.ref CInvalidCode) (.ref CTooLong) = some false)
    (kt_InvalidCountdowns_TooLong : PySem.W.kitOne K (.ref CInvalidCountdowns) (.ref CTooLong) = some false)
    (kt_InvalidEntries_TooLong : PySem.W.kitOne K (.ref CInvalidEntries) (.ref CTooLong) = some false)
    (kt_InvalidEntry_TooLong : PySem.W.kitOne K (.ref CInvalidEntry) (.ref CTooLong) = some false)
    (kt_InvalidInstructionSet_TooLong : PySem.W.kitOne K (.ref CInvalidInstructionSet) (.ref CTooLong) = some false)
    (kt_InvalidLengths_TooLong : PySem.W.kitOne K (.ref CInvalidLengths) (.ref CTooLong) = some false)
    (kt_InvalidNumber_TooLong : PySem.W.kitOne K (.ref CInvalidNumber) (.ref CTooLong) = some false)
    (kt_InvalidOffset_TooLong : PySem.W.kitOne K (.ref CInvalidOffset) (.ref CTooLong) = some false)
    (kt_InvalidProgram_TooLong : PySem.W.kitOne K (.ref CInvalidProgram) (.ref CTooLong) = some false)
    (kt_InvalidTimes_TooLong : PySem.W.kitOne K (.ref CInvalidTimes) (.ref CTooLong) = some false)
    (kt_NothingToUndo_TooLong : PySem.W.kitOne K (.ref CNothingToUndo) (.ref CTooLong) = some false)
    (kt_ParseError_TooLong : PySem.W.kitOne K (.ref CParseError) (.ref CTooLong) = some false)
    (kt_TooLong_TooLong : PySem.W.kitOne K (.ref CTooLong) (.ref CTooLong) = some true)
    (kt_TooManyStates_TooLong : PySem.W.kitOne K (.ref CTooManyStates) (.ref CTooLong) = some false)
    (kt_OverlapError_TooLong : PySem.W.kitOne K (.ref COverlapError) (.ref CTooLong) = some false)
    (kt_CommandError_TooManyStates : PySem.W.kitOne K (.ref CCommandError) (.ref CTooManyStates) = some false)
    (kt_InvalidCode_TooManyStates : PySem.W.kitOne K (.ref CInvalidCode) (.ref CTooManyStates) = some false)
    (kt_InvalidCountdowns_TooManyStates : PySem.W.kitOne K (.ref CInvalidCountdowns) (.ref CTooManyStates) = some false)
    (kt_InvalidEntries_TooManyStates : PySem.W.kitOne K (.ref CInvalidEntries) (.ref CTooManyStates) = some false)
    (kt_InvalidEntry_TooManyStates : PySem.W.kitOne K (.ref CInvalidEntry) (.ref CTooManyStates) = some false)
    (kt_InvalidInstructionSet_TooManyStates : PySem.W.kitOne K (.ref CInvalidInstructionSet) (.ref CTooManyStates) = some false)
    (kt_InvalidLengths_TooManyStates : PySem.W.kitOne K (.ref CInvalidLengths) (.ref CTooManyStates) = some false)
    (kt_InvalidNumber_TooManyStates : PySem.W.kitOne K (.ref CInvalidNumber) (.ref CTooManyStates) = some false)
    (kt_InvalidOffset_TooManyStates : PySem.W.kitOne K (.ref CInvalidOffset) (.ref CTooManyStates) = some false)
    (kt_InvalidProgram_TooManyStates : PySem.W.kitOne K (.ref CInvalidProgram) (.ref CTooManyStates) = some false)
    (kt_InvalidTimes_TooManyStates : PySem.W.kitOne K (.ref CInvalidTimes) (.ref CTooManyStates) = some false)
    (kt_NothingToUndo_TooManyStates : PySem.W.kitOne K (.ref CNothingToUndo) (.ref CTooManyStates) = some false)
    (kt_ParseError_TooManyStates : PySem.W.kitOne K (.ref CParseError) (.ref CTooManyStates) = some false)
    (kt_TooLong_TooManyStates : PySem.W.kitOne K (.ref CTooLong) (.ref CTooManyStates) = some false)
    (kt_TooManyStates_TooManyStates : PySem.W.kitOne K (.ref CTooManyStates) (.ref CTooManyStates) = some true)
    (kt_OverlapError_TooManyStates : PySem.W.kitOne K (.ref COverlapError) (.ref CTooManyStates) = some false)
    (b_ValueError : PySem.W.nsIn K mainGlobals "ValueError" = some none)
    (kt_CommandError_ValueError : PySem.W.kitOne K (.ref CCommandError) (.type "ValueError") = some true)
    (kt_InvalidCode_ValueError : PySem.W.kitOne K (.ref CInvalidCode) (.type "ValueError") = some true)
    (kt_InvalidCountdowns_ValueError : PySem.W.kitOne K (.ref CInvalidCountdowns) (.type "ValueError") = some true)
    (kt_InvalidEntries_ValueError : PySem.W.kitOne K (.ref CInvalidEntries) (.type "ValueError") = some true)
    (kt_InvalidEntry_ValueError : PySem.W.kitOne K (.ref CInvalidEntry) (.type "ValueError") = some true)
    (kt_InvalidInstructionSet_ValueError : PySem.W.kitOne K (.ref CInvalidInstructionSet) (.type "ValueError") = some true)
    (kt_InvalidLengths_ValueError : PySem.W.kitOne K (.ref CInvalidLengths) (.type "ValueError") = some true)
    (kt_InvalidNumber_ValueError : PySem.W.kitOne K (.ref CInvalidNumber) (.type "ValueError") = some true)
    (kt_InvalidOffset_ValueError : PySem.W.kitOne K (.ref CInvalidOffset) (.type "ValueError") = some true)
    (kt_InvalidProgram_ValueError : PySem.W.kitOne K (.ref CInvalidProgram) (.type "ValueError") = some true)
    (kt_InvalidTimes_ValueError : PySem.W.kitOne K (.ref CInvalidTimes) (.type "ValueError") = some true)
    (kt_NothingToUndo_ValueError : PySem.W.kitOne K (.ref CNothingToUndo) (.type "ValueError") = some true)
    (kt_ParseError_ValueError : PySem.W.kitOne K (.ref CParseError) (.type "ValueError") = some true)
    (kt_TooLong_ValueError : PySem.W.kitOne K (.ref CTooLong) (.type "ValueError") = some true)
    (kt_TooManyStates_ValueError : PySem.W.kitOne K (.ref CTooManyStates) (.type "ValueError") = some true)
    (kt_OverlapError_ValueError : PySem.W.kitOne K (.ref COverlapError) (.type "ValueError") = some true)
    (a0 : PySem.W.nsIn K mainGlobals "_law_kinds" = some (some (.ref f0)))
    (l0 : K.lookup f0 = some ⟨oc0, od0, .func (PySem.W.fnOf "_law_kinds" "_law_kinds" (defArgs s_l_kinds) (defBody s_l_kinds) (defScope s_l_kinds) .none kV0 dc0 pm0 an0 cd0 ct0), sl0⟩)
    (c0 : PySem.W.codeIn K cd0 "_law_kinds" = true)
    (k0 : PySem.W.keepIn K (.ref f0) = true)
    (a1 : PySem.W.nsIn K mainGlobals "_law_box" = some (some (.ref f1)))
    (l1 : K.lookup f1 = some ⟨oc1, od1, .func (PySem.W.fnOf "_law_box" "_law_box" (defArgs s_l_box) (defBody s_l_box) (defScope s_l_box) .none kV1 dc1 pm1 an1 cd1 ct1), sl1⟩)
    (c1 : PySem.W.codeIn K cd1 "_law_box" = true)
    (k1 : PySem.W.keepIn K (.ref f1) = true)
    (a2 : PySem.W.nsIn K mainGlobals "_law_take" = some (some (.ref f2)))
    (l2 : K.lookup f2 = some ⟨oc2, od2, .func (PySem.W.fnOf "_law_take" "_law_take" (defArgs s_l_take) (defBody s_l_take) (defScope s_l_take) .none kV2 dc2 pm2 an2 cd2 ct2), sl2⟩)
    (c2 : PySem.W.codeIn K cd2 "_law_take" = true)
    (k2 : PySem.W.keepIn K (.ref f2) = true)
    (a3 : PySem.W.nsIn K mainGlobals "_law_made" = some (some (.ref f3)))
    (l3 : K.lookup f3 = some ⟨oc3, od3, .func (PySem.W.fnOf "_law_made" "_law_made" (defArgs s_l_made) (defBody s_l_made) (defScope s_l_made) .none kV3 dc3 pm3 an3 cd3 ct3), sl3⟩)
    (c3 : PySem.W.codeIn K cd3 "_law_made" = true)
    (k3 : PySem.W.keepIn K (.ref f3) = true)
    (a4 : PySem.W.nsIn K mainGlobals "law" = some (some (.ref f4)))
    (l4 : K.lookup f4 = some ⟨oc4, od4, .func (PySem.W.fnOf "law" "law" (defArgs s_law) (defBody s_law) (defScope s_law) .none kV4 dc4 pm4 an4 cd4 ct4), sl4⟩)
    (c4 : PySem.W.codeIn K cd4 "law" = true)
    (k4 : PySem.W.keepIn K (.ref f4) = true)
    (b_len : PySem.W.nsIn K mainGlobals "len" = some none)
    (b_abs : PySem.W.nsIn K mainGlobals "abs" = some none)
    (b_int : PySem.W.nsIn K mainGlobals "int" = some none)
    (b_bool : PySem.W.nsIn K mainGlobals "bool" = some none)
    (b_str : PySem.W.nsIn K mainGlobals "str" = some none)
    (b_tuple : PySem.W.nsIn K mainGlobals "tuple" = some none)
    (b_list : PySem.W.nsIn K mainGlobals "list" = some none)
    (b_dict : PySem.W.nsIn K mainGlobals "dict" = some none)
    (b_set : PySem.W.nsIn K mainGlobals "set" = some none)
    (b_range : PySem.W.nsIn K mainGlobals "range" = some none)
    (b_zip : PySem.W.nsIn K mainGlobals "zip" = some none)
    (b_enumerate : PySem.W.nsIn K mainGlobals "enumerate" = some none)
    (b_all : PySem.W.nsIn K mainGlobals "all" = some none)
    (b_any : PySem.W.nsIn K mainGlobals "any" = some none)
    (b_sum : PySem.W.nsIn K mainGlobals "sum" = some none)
    (b_min : PySem.W.nsIn K mainGlobals "min" = some none)
    (b_max : PySem.W.nsIn K mainGlobals "max" = some none)
    (b_sorted : PySem.W.nsIn K mainGlobals "sorted" = some none)
    (b_repr : PySem.W.nsIn K mainGlobals "repr" = some none)
    (b_isinstance : PySem.W.nsIn K mainGlobals "isinstance" = some none)
    : ∃ fd : FuncData, (∀ (s : Shared) (v : Value), BindsTo s fd ⟨[v], []⟩ [("_law_script", v)]) ∧
      ∀ base : Heap, K.In base → base.Ns mainGlobals mg → FnG l.prog w K mg base CX0 30 fa fd ["_law_script"] (spLaw K) := by
  have e := hfa.symm.trans (PySem.W.mg_of X G a4)
  cases e
  refine ⟨PySem.W.fnOf "law" "law" (defArgs s_law) (defBody s_law) (defScope s_law) .none kV4 dc4 pm4 an4 cd4 ct4, fun s v => .of_eq rfl, fun base _ _ => ?_⟩
  have A_l_kinds : At K mg "_law_kinds" s_l_kinds _ _ := ⟨fun_mk (st := s_l_kinds) l0 c0 k0, PySem.W.mg_of X G a0⟩
  have A_l_box : At K mg "_law_box" s_l_box _ _ := ⟨fun_mk (st := s_l_box) l1 c1 k1, PySem.W.mg_of X G a1⟩
  have A_l_take : At K mg "_law_take" s_l_take _ _ := ⟨fun_mk (st := s_l_take) l2 c2 k2, PySem.W.mg_of X G a2⟩
  have A_l_made : At K mg "_law_made" s_l_made _ _ := ⟨fun_mk (st := s_l_made) l3 c3 k3, PySem.W.mg_of X G a3⟩
  have A_law : At K mg "law" s_law _ _ := ⟨fun_mk (st := s_law) l4 c4 k4, PySem.W.mg_of X G a4⟩
  have T : Blt mg := ⟨PySem.W.mg_none_of X G b_len, PySem.W.mg_none_of X G b_abs, PySem.W.mg_none_of X G b_int, PySem.W.mg_none_of X G b_bool, PySem.W.mg_none_of X G b_str, PySem.W.mg_none_of X G b_tuple, PySem.W.mg_none_of X G b_list, PySem.W.mg_none_of X G b_dict, PySem.W.mg_none_of X G b_set, PySem.W.mg_none_of X G b_range, PySem.W.mg_none_of X G b_zip, PySem.W.mg_none_of X G b_enumerate, PySem.W.mg_none_of X G b_all, PySem.W.mg_none_of X G b_any, PySem.W.mg_none_of X G b_sum, PySem.W.mg_none_of X G b_min, PySem.W.mg_none_of X G b_max, PySem.W.mg_none_of X G b_sorted, PySem.W.mg_none_of X G b_repr, PySem.W.mg_none_of X G b_isinstance⟩
  let cls : String → Option Addr := fun c => if c = "CommandError" then some CCommandError else if c = "InvalidCode" then some CInvalidCode else if c = "InvalidCountdowns" then some CInvalidCountdowns else if c = "InvalidEntries" then some CInvalidEntries else if c = "InvalidEntry" then some CInvalidEntry else if c = "InvalidInstructionSet" then some CInvalidInstructionSet else if c = "InvalidLengths" then some CInvalidLengths else if c = "InvalidNumber" then some CInvalidNumber else if c = "InvalidOffset" then some CInvalidOffset else if c = "InvalidProgram" then some CInvalidProgram else if c = "InvalidTimes" then some CInvalidTimes else if c = "NothingToUndo" then some CNothingToUndo else if c = "ParseError" then some CParseError else if c = "TooLong" then some CTooLong else if c = "TooManyStates" then some CTooManyStates else if c = "OverlapError" then some COverlapError else none
  have hcCommandError : cls "CommandError" = some CCommandError := by simp [cls]
  have hcInvalidCode : cls "InvalidCode" = some CInvalidCode := by simp [cls]
  have hcInvalidCountdowns : cls "InvalidCountdowns" = some CInvalidCountdowns := by simp [cls]
  have hcInvalidEntries : cls "InvalidEntries" = some CInvalidEntries := by simp [cls]
  have hcInvalidEntry : cls "InvalidEntry" = some CInvalidEntry := by simp [cls]
  have hcInvalidInstructionSet : cls "InvalidInstructionSet" = some CInvalidInstructionSet := by simp [cls]
  have hcInvalidLengths : cls "InvalidLengths" = some CInvalidLengths := by simp [cls]
  have hcInvalidNumber : cls "InvalidNumber" = some CInvalidNumber := by simp [cls]
  have hcInvalidOffset : cls "InvalidOffset" = some CInvalidOffset := by simp [cls]
  have hcInvalidProgram : cls "InvalidProgram" = some CInvalidProgram := by simp [cls]
  have hcInvalidTimes : cls "InvalidTimes" = some CInvalidTimes := by simp [cls]
  have hcNothingToUndo : cls "NothingToUndo" = some CNothingToUndo := by simp [cls]
  have hcParseError : cls "ParseError" = some CParseError := by simp [cls]
  have hcTooLong : cls "TooLong" = some CTooLong := by simp [cls]
  have hcTooManyStates : cls "TooManyStates" = some CTooManyStates := by simp [cls]
  have hcOverlapError : cls "OverlapError" = some COverlapError := by simp [cls]
  have t_ex : ExcL K cls ["CommandError", "InvalidCode", "InvalidCountdowns", "InvalidEntries", "InvalidEntry", "InvalidInstructionSet", "InvalidLengths", "InvalidNumber", "InvalidOffset", "InvalidProgram", "InvalidTimes", "NothingToUndo", "ParseError", "TooLong", "TooManyStates", "OverlapError"] := (allL_cons hcCommandError (⟨xieCommandError, xgeCommandError, xGeCommandError, xbeCommandError, xceCommandError, xcg, xct, xmeCommandError, xdeCommandError⟩) (allL_cons hcInvalidCode (⟨xieInvalidCode, xgeInvalidCode, xGeInvalidCode, xbeInvalidCode, xceInvalidCode, xcg, xct, xmeInvalidCode, xdeInvalidCode⟩) (allL_cons hcInvalidCountdowns (⟨xieInvalidCountdowns, xgeInvalidCountdowns, xGeInvalidCountdowns, xbeInvalidCountdowns, xceInvalidCountdowns, xcg, xct, xmeInvalidCountdowns, xdeInvalidCountdowns⟩) (allL_cons hcInvalidEntries (⟨xieInvalidEntries, xgeInvalidEntries, xGeInvalidEntries, xbeInvalidEntries, xceInvalidEntries, xcg, xct, xmeInvalidEntries, xdeInvalidEntries⟩) (allL_cons hcInvalidEntry (⟨xieInvalidEntry, xgeInvalidEntry, xGeInvalidEntry, xbeInvalidEntry, xceInvalidEntry, xcg, xct, xmeInvalidEntry, xdeInvalidEntry⟩) (allL_cons hcInvalidInstructionSet (⟨xieInvalidInstructionSet, xgeInvalidInstructionSet, xGeInvalidInstructionSet, xbeInvalidInstructionSet, xceInvalidInstructionSet, xcg, xct, xmeInvalidInstructionSet, xdeInvalidInstructionSet⟩) (allL_cons hcInvalidLengths (⟨xieInvalidLengths, xgeInvalidLengths, xGeInvalidLengths, xbeInvalidLengths, xceInvalidLengths, xcg, xct, xmeInvalidLengths, xdeInvalidLengths⟩) (allL_cons hcInvalidNumber (⟨xieInvalidNumber, xgeInvalidNumber, xGeInvalidNumber, xbeInvalidNumber, xceInvalidNumber, xcg, xct, xmeInvalidNumber, xdeInvalidNumber⟩) (allL_cons hcInvalidOffset (⟨xieInvalidOffset, xgeInvalidOffset, xGeInvalidOffset, xbeInvalidOffset, xceInvalidOffset, xcg, xct, xmeInvalidOffset, xdeInvalidOffset⟩) (allL_cons hcInvalidProgram (⟨xieInvalidProgram, xgeInvalidProgram, xGeInvalidProgram, xbeInvalidProgram, xceInvalidProgram, xcg, xct, xmeInvalidProgram, xdeInvalidProgram⟩) (allL_cons hcInvalidTimes (⟨xieInvalidTimes, xgeInvalidTimes, xGeInvalidTimes, xbeInvalidTimes, xceInvalidTimes, xcg, xct, xmeInvalidTimes, xdeInvalidTimes⟩) (allL_cons hcNothingToUndo (⟨xieNothingToUndo, xgeNothingToUndo, xGeNothingToUndo, xbeNothingToUndo, xceNothingToUndo, xcg, xct, xmeNothingToUndo, xdeNothingToUndo⟩) (allL_cons hcParseError (⟨xieParseError, xgeParseError, xGeParseError, xbeParseError, xceParseError, xcg, xct, xmeParseError, xdeParseError⟩) (allL_cons hcTooLong (⟨xieTooLong, xgeTooLong, xGeTooLong, xbeTooLong, xceTooLong, xcg, xct, xmeTooLong, xdeTooLong⟩) (allL_cons hcTooManyStates (⟨xieTooManyStates, xgeTooManyStates, xGeTooManyStates, xbeTooManyStates, xceTooManyStates, xcg, xct, xmeTooManyStates, xdeTooManyStates⟩) (allL_cons hcOverlapError (⟨xieOverlapError, xgeOverlapError, xGeOverlapError, xbeOverlapError, xceOverlapError, xcg, xct, xmeOverlapError, xdeOverlapError⟩) allL_nil))))))))))))))))
  have t_i_CommandError : IsT K mg cls ["CommandError", "InvalidCode", "InvalidCountdowns", "InvalidEntries", "InvalidEntry", "InvalidInstructionSet", "InvalidLengths", "InvalidNumber", "InvalidOffset", "InvalidProgram", "InvalidTimes", "NothingToUndo", "ParseError", "TooLong", "TooManyStates", "OverlapError"] "CommandError" := ⟨.ref CCommandError, .ref CCommandError, rfl, rfl, .inl (PySem.W.mg_of X G gCCommandError), (allL_cons hcCommandError (kt_CommandError_CommandError) (allL_cons hcInvalidCode (kt_InvalidCode_CommandError) (allL_cons hcInvalidCountdowns (kt_InvalidCountdowns_CommandError) (allL_cons hcInvalidEntries (kt_InvalidEntries_CommandError) (allL_cons hcInvalidEntry (kt_InvalidEntry_CommandError) (allL_cons hcInvalidInstructionSet (kt_InvalidInstructionSet_CommandError) (allL_cons hcInvalidLengths (kt_InvalidLengths_CommandError) (allL_cons hcInvalidNumber (kt_InvalidNumber_CommandError) (allL_cons hcInvalidOffset (kt_InvalidOffset_CommandError) (allL_cons hcInvalidProgram (kt_InvalidProgram_CommandError) (allL_cons hcInvalidTimes (kt_InvalidTimes_CommandError) (allL_cons hcNothingToUndo (kt_NothingToUndo_CommandError) (allL_cons hcParseError (kt_ParseError_CommandError) (allL_cons hcTooLong (kt_TooLong_CommandError) (allL_cons hcTooManyStates (kt_TooManyStates_CommandError) (allL_cons hcOverlapError (kt_OverlapError_CommandError) allL_nil))))))))))))))))⟩
  have t_i_InvalidCode : IsT K mg cls ["CommandError", "InvalidCode", "InvalidCountdowns", "InvalidEntries", "InvalidEntry", "InvalidInstructionSet", "InvalidLengths", "InvalidNumber", "InvalidOffset", "InvalidProgram", "InvalidTimes", "NothingToUndo", "ParseError", "TooLong", "TooManyStates", "OverlapError"] "InvalidCode" := ⟨.ref CInvalidCode, .ref CInvalidCode, rfl, rfl, .inl (PySem.W.mg_of X G gCInvalidCode), (allL_cons hcCommandError (kt_CommandError_InvalidCode) (allL_cons hcInvalidCode (kt_InvalidCode_InvalidCode) (allL_cons hcInvalidCountdowns (kt_InvalidCountdowns_InvalidCode) (allL_cons hcInvalidEntries (kt_InvalidEntries_InvalidCode) (allL_cons hcInvalidEntry (kt_InvalidEntry_InvalidCode) (allL_cons hcInvalidInstructionSet (kt_InvalidInstructionSet_InvalidCode) (allL_cons hcInvalidLengths (kt_InvalidLengths_InvalidCode) (allL_cons hcInvalidNumber (kt_InvalidNumber_InvalidCode) (allL_cons hcInvalidOffset (kt_InvalidOffset_InvalidCode) (allL_cons hcInvalidProgram (kt_InvalidProgram_InvalidCode) (allL_cons hcInvalidTimes (kt_InvalidTimes_InvalidCode) (allL_cons hcNothingToUndo (kt_NothingToUndo_InvalidCode) (allL_cons hcParseError (kt_ParseError_InvalidCode) (allL_cons hcTooLong (kt_TooLong_InvalidCode) (allL_cons hcTooManyStates (kt_TooManyStates_InvalidCode) (allL_cons hcOverlapError (kt_OverlapError_InvalidCode) allL_nil))))))))))))))))⟩
  have t_i_InvalidCountdowns : IsT K mg cls ["CommandError", "InvalidCode", "InvalidCountdowns", "InvalidEntries", "InvalidEntry", "InvalidInstructionSet", "InvalidLengths", "InvalidNumber", "InvalidOffset", "InvalidProgram", "InvalidTimes", "NothingToUndo", "ParseError", "TooLong", "TooManyStates", "OverlapError"] "InvalidCountdowns" := ⟨.ref CInvalidCountdowns, .ref CInvalidCountdowns, rfl, rfl, .inl (PySem.W.mg_of X G gCInvalidCountdowns), (allL_cons hcCommandError (kt_CommandError_InvalidCountdowns) (allL_cons hcInvalidCode (kt_InvalidCode_InvalidCountdowns) (allL_cons hcInvalidCountdowns (kt_InvalidCountdowns_InvalidCountdowns) (allL_cons hcInvalidEntries (kt_InvalidEntries_InvalidCountdowns) (allL_cons hcInvalidEntry (kt_InvalidEntry_InvalidCountdowns) (allL_cons hcInvalidInstructionSet (kt_InvalidInstructionSet_InvalidCountdowns) (allL_cons hcInvalidLengths (kt_InvalidLengths_InvalidCountdowns) (allL_cons hcInvalidNumber (kt_InvalidNumber_InvalidCountdowns) (allL_cons hcInvalidOffset (kt_InvalidOffset_InvalidCountdowns) (allL_cons hcInvalidProgram (kt_InvalidProgram_InvalidCountdowns) (allL_cons hcInvalidTimes (kt_InvalidTimes_InvalidCountdowns) (allL_cons hcNothingToUndo (kt_NothingToUndo_InvalidCountdowns) (allL_cons hcParseError (kt_ParseError_InvalidCountdowns) (allL_cons hcTooLong (kt_TooLong_InvalidCountdowns) (allL_cons hcTooManyStates (kt_TooManyStates_InvalidCountdowns) (allL_cons hcOverlapError (kt_OverlapError_InvalidCountdowns) allL_nil))))))))))))))))⟩
  have t_i_InvalidEntries : IsT K mg cls ["CommandError", "InvalidCode", "InvalidCountdowns", "InvalidEntries", "InvalidEntry", "InvalidInstructionSet", "InvalidLengths", "InvalidNumber", "InvalidOffset", "InvalidProgram", "InvalidTimes", "NothingToUndo", "ParseError", "TooLong", "TooManyStates", "OverlapError"] "InvalidEntries" := ⟨.ref CInvalidEntries, .ref CInvalidEntries, rfl, rfl, .inl (PySem.W.mg_of X G gCInvalidEntries), (allL_cons hcCommandError (kt_CommandError_InvalidEntries) (allL_cons hcInvalidCode (kt_InvalidCode_InvalidEntries) (allL_cons hcInvalidCountdowns (kt_InvalidCountdowns_InvalidEntries) (allL_cons hcInvalidEntries (kt_InvalidEntries_InvalidEntries) (allL_cons hcInvalidEntry (kt_InvalidEntry_InvalidEntries) (allL_cons hcInvalidInstructionSet (kt_InvalidInstructionSet_InvalidEntries) (allL_cons hcInvalidLengths (kt_InvalidLengths_InvalidEntries) (allL_cons hcInvalidNumber (kt_InvalidNumber_InvalidEntries) (allL_cons hcInvalidOffset (kt_InvalidOffset_InvalidEntries) (allL_cons hcInvalidProgram (kt_InvalidProgram_InvalidEntries) (allL_cons hcInvalidTimes (kt_InvalidTimes_InvalidEntries) (allL_cons hcNothingToUndo (kt_NothingToUndo_InvalidEntries) (allL_cons hcParseError (kt_ParseError_InvalidEntries) (allL_cons hcTooLong (kt_TooLong_InvalidEntries) (allL_cons hcTooManyStates (kt_TooManyStates_InvalidEntries) (allL_cons hcOverlapError (kt_OverlapError_InvalidEntries) allL_nil))))))))))))))))⟩
  have t_i_InvalidEntry : IsT K mg cls ["CommandError", "InvalidCode", "InvalidCountdowns", "InvalidEntries", "InvalidEntry", "InvalidInstructionSet", "InvalidLengths", "InvalidNumber", "InvalidOffset", "InvalidProgram", "InvalidTimes", "NothingToUndo", "ParseError", "TooLong", "TooManyStates", "OverlapError"] "InvalidEntry" := ⟨.ref CInvalidEntry, .ref CInvalidEntry, rfl, rfl, .inl (PySem.W.mg_of X G gCInvalidEntry), (allL_cons hcCommandError (kt_CommandError_InvalidEntry) (allL_cons hcInvalidCode (kt_InvalidCode_InvalidEntry) (allL_cons hcInvalidCountdowns (kt_InvalidCountdowns_InvalidEntry) (allL_cons hcInvalidEntries (kt_InvalidEntries_InvalidEntry) (allL_cons hcInvalidEntry (kt_InvalidEntry_InvalidEntry) (allL_cons hcInvalidInstructionSet (kt_InvalidInstructionSet_InvalidEntry) (allL_cons hcInvalidLengths (kt_InvalidLengths_InvalidEntry) (allL_cons hcInvalidNumber (kt_InvalidNumber_InvalidEntry) (allL_cons hcInvalidOffset (kt_InvalidOffset_InvalidEntry) (allL_cons hcInvalidProgram (kt_InvalidProgram_InvalidEntry) (allL_cons hcInvalidTimes (kt_InvalidTimes_InvalidEntry) (allL_cons hcNothingToUndo (kt_NothingToUndo_InvalidEntry) (allL_cons hcParseError (kt_ParseError_InvalidEntry) (allL_cons hcTooLong (kt_TooLong_InvalidEntry) (allL_cons hcTooManyStates (kt_TooManyStates_InvalidEntry) (allL_cons hcOverlapError (kt_OverlapError_InvalidEntry) allL_nil))))))))))))))))⟩
  have t_i_InvalidInstructionSet : IsT K mg cls ["CommandError", "InvalidCode", "InvalidCountdowns", "InvalidEntries", "InvalidEntry", "InvalidInstructionSet", "InvalidLengths", "InvalidNumber", "InvalidOffset", "InvalidProgram", "InvalidTimes", "NothingToUndo", "ParseError", "TooLong", "TooManyStates", "OverlapError"] "InvalidInstructionSet" := ⟨.ref CInvalidInstructionSet, .ref CInvalidInstructionSet, rfl, rfl, .inl (PySem.W.mg_of X G gCInvalidInstructionSet), (allL_cons hcCommandError (kt_CommandError_InvalidInstructionSet) (allL_cons hcInvalidCode (kt_InvalidCode_InvalidInstructionSet) (allL_cons hcInvalidCountdowns (kt_InvalidCountdowns_InvalidInstructionSet) (allL_cons hcInvalidEntries (kt_InvalidEntries_InvalidInstructionSet) (allL_cons hcInvalidEntry (kt_InvalidEntry_InvalidInstructionSet) (allL_cons hcInvalidInstructionSet (kt_InvalidInstructionSet_InvalidInstructionSet) (allL_cons hcInvalidLengths (kt_InvalidLengths_InvalidInstructionSet) (allL_cons hcInvalidNumber (kt_InvalidNumber_InvalidInstructionSet) (allL_cons hcInvalidOffset (kt_InvalidOffset_InvalidInstructionSet) (allL_cons hcInvalidProgram (kt_InvalidProgram_InvalidInstructionSet) (allL_cons hcInvalidTimes (kt_InvalidTimes_InvalidInstructionSet) (allL_cons hcNothingToUndo (kt_NothingToUndo_InvalidInstructionSet) (allL_cons hcParseError (kt_ParseError_InvalidInstructionSet) (allL_cons hcTooLong (kt_TooLong_InvalidInstructionSet) (allL_cons hcTooManyStates (kt_TooManyStates_InvalidInstructionSet) (allL_cons hcOverlapError (kt_OverlapError_InvalidInstructionSet) allL_nil))))))))))))))))⟩
  have t_i_InvalidLengths : IsT K mg cls ["CommandError", "InvalidCode", "InvalidCountdowns", "InvalidEntries", "InvalidEntry", "InvalidInstructionSet", "InvalidLengths", "InvalidNumber", "InvalidOffset", "InvalidProgram", "InvalidTimes", "NothingToUndo", "ParseError", "TooLong", "TooManyStates", "OverlapError"] "InvalidLengths" := ⟨.ref CInvalidLengths, .ref CInvalidLengths, rfl, rfl, .inl (PySem.W.mg_of X G gCInvalidLengths), (allL_cons hcCommandError (kt_CommandError_InvalidLengths) (allL_cons hcInvalidCode (kt_InvalidCode_InvalidLengths) (allL_cons hcInvalidCountdowns (kt_InvalidCountdowns_InvalidLengths) (allL_cons hcInvalidEntries (kt_InvalidEntries_InvalidLengths) (allL_cons hcInvalidEntry (kt_InvalidEntry_InvalidLengths) (allL_cons hcInvalidInstructionSet (kt_InvalidInstructionSet_InvalidLengths) (allL_cons hcInvalidLengths (kt_InvalidLengths_InvalidLengths) (allL_cons hcInvalidNumber (kt_InvalidNumber_InvalidLengths) (allL_cons hcInvalidOffset (kt_InvalidOffset_InvalidLengths) (allL_cons hcInvalidProgram (kt_InvalidProgram_InvalidLengths) (allL_cons hcInvalidTimes (kt_InvalidTimes_InvalidLengths) (allL_cons hcNothingToUndo (kt_NothingToUndo_InvalidLengths) (allL_cons hcParseError (kt_ParseError_InvalidLengths) (allL_cons hcTooLong (kt_TooLong_InvalidLengths) (allL_cons hcTooManyStates (kt_TooManyStates_InvalidLengths) (allL_cons hcOverlapError (kt_OverlapError_InvalidLengths) allL_nil))))))))))))))))⟩
  have t_i_InvalidNumber : IsT K mg cls ["CommandError", "InvalidCode", "InvalidCountdowns", "InvalidEntries", "InvalidEntry", "InvalidInstructionSet", "InvalidLengths", "InvalidNumber", "InvalidOffset", "InvalidProgram", "InvalidTimes", "NothingToUndo", "ParseError", "TooLong", "TooManyStates", "OverlapError"] "InvalidNumber" := ⟨.ref CInvalidNumber, .ref CInvalidNumber, rfl, rfl, .inl (PySem.W.mg_of X G gCInvalidNumber), (allL_cons hcCommandError (kt_CommandError_InvalidNumber) (allL_cons hcInvalidCode (kt_InvalidCode_InvalidNumber) (allL_cons hcInvalidCountdowns (kt_InvalidCountdowns_InvalidNumber) (allL_cons hcInvalidEntries (kt_InvalidEntries_InvalidNumber) (allL_cons hcInvalidEntry (kt_InvalidEntry_InvalidNumber) (allL_cons hcInvalidInstructionSet (kt_InvalidInstructionSet_InvalidNumber) (allL_cons hcInvalidLengths (kt_InvalidLengths_InvalidNumber) (allL_cons hcInvalidNumber (kt_InvalidNumber_InvalidNumber) (allL_cons hcInvalidOffset (kt_InvalidOffset_InvalidNumber) (allL_cons hcInvalidProgram (kt_InvalidProgram_InvalidNumber) (allL_cons hcInvalidTimes (kt_InvalidTimes_InvalidNumber) (allL_cons hcNothingToUndo (kt_NothingToUndo_InvalidNumber) (allL_cons hcParseError (kt_ParseError_InvalidNumber) (allL_cons hcTooLong (kt_TooLong_InvalidNumber) (allL_cons hcTooManyStates (kt_TooManyStates_InvalidNumber) (allL_cons hcOverlapError (kt_OverlapError_InvalidNumber) allL_nil))))))))))))))))⟩
  have t_i_InvalidOffset : IsT K mg cls ["CommandError", "InvalidCode", "InvalidCountdowns", "InvalidEntries", "InvalidEntry", "InvalidInstructionSet", "InvalidLengths", "InvalidNumber", "InvalidOffset", "InvalidProgram", "InvalidTimes", "NothingToUndo", "ParseError", "TooLong", "TooManyStates", "OverlapError"] "InvalidOffset" := ⟨.ref CInvalidOffset, .ref CInvalidOffset, rfl, rfl, .inl (PySem.W.mg_of X G gCInvalidOffset), (allL_cons hcCommandError (kt_CommandError_InvalidOffset) (allL_cons hcInvalidCode (kt_InvalidCode_InvalidOffset) (allL_cons hcInvalidCountdowns (kt_InvalidCountdowns_InvalidOffset) (allL_cons hcInvalidEntries (kt_InvalidEntries_InvalidOffset) (allL_cons hcInvalidEntry (kt_InvalidEntry_InvalidOffset) (allL_cons hcInvalidInstructionSet (kt_InvalidInstructionSet_InvalidOffset) (allL_cons hcInvalidLengths (kt_InvalidLengths_InvalidOffset) (allL_cons hcInvalidNumber (kt_InvalidNumber_InvalidOffset) (allL_cons hcInvalidOffset (kt_InvalidOffset_InvalidOffset) (allL_cons hcInvalidProgram (kt_InvalidProgram_InvalidOffset) (allL_cons hcInvalidTimes (kt_InvalidTimes_InvalidOffset) (allL_cons hcNothingToUndo (kt_NothingToUndo_InvalidOffset) (allL_cons hcParseError (kt_ParseError_InvalidOffset) (allL_cons hcTooLong (kt_TooLong_InvalidOffset) (allL_cons hcTooManyStates (kt_TooManyStates_InvalidOffset) (allL_cons hcOverlapError (kt_OverlapError_InvalidOffset) allL_nil))))))))))))))))⟩
  have t_i_InvalidProgram : IsT K mg cls ["CommandError", "InvalidCode", "InvalidCountdowns", "InvalidEntries", "InvalidEntry", "InvalidInstructionSet", "InvalidLengths", "InvalidNumber", "InvalidOffset", "InvalidProgram", "InvalidTimes", "NothingToUndo", "ParseError", "TooLong", "TooManyStates", "OverlapError"] "InvalidProgram" := ⟨.ref CInvalidProgram, .ref CInvalidProgram, rfl, rfl, .inl (PySem.W.mg_of X G gCInvalidProgram), (allL_cons hcCommandError (kt_CommandError_InvalidProgram) (allL_cons hcInvalidCode (kt_InvalidCode_InvalidProgram) (allL_cons hcInvalidCountdowns (kt_InvalidCountdowns_InvalidProgram) (allL_cons hcInvalidEntries (kt_InvalidEntries_InvalidProgram) (allL_cons hcInvalidEntry (kt_InvalidEntry_InvalidProgram) (allL_cons hcInvalidInstructionSet (kt_InvalidInstructionSet_InvalidProgram) (allL_cons hcInvalidLengths (kt_InvalidLengths_InvalidProgram) (allL_cons hcInvalidNumber (kt_InvalidNumber_InvalidProgram) (allL_cons hcInvalidOffset (kt_InvalidOffset_InvalidProgram) (allL_cons hcInvalidProgram (kt_InvalidProgram_InvalidProgram) (allL_cons hcInvalidTimes (kt_InvalidTimes_InvalidProgram) (allL_cons hcNothingToUndo (kt_NothingToUndo_InvalidProgram) (allL_cons hcParseError (kt_ParseError_InvalidProgram) (allL_cons hcTooLong (kt_TooLong_InvalidProgram) (allL_cons hcTooManyStates (kt_TooManyStates_InvalidProgram) (allL_cons hcOverlapError (kt_OverlapError_InvalidProgram) allL_nil))))))))))))))))⟩
  have t_i_InvalidTimes : IsT K mg cls ["CommandError", "InvalidCode", "InvalidCountdowns", "InvalidEntries", "InvalidEntry", "InvalidInstructionSet", "InvalidLengths", "InvalidNumber", "InvalidOffset", "InvalidProgram", "InvalidTimes", "NothingToUndo", "ParseError", "TooLong", "TooManyStates", "OverlapError"] "InvalidTimes" := ⟨.ref CInvalidTimes, .ref CInvalidTimes, rfl, rfl, .inl (PySem.W.mg_of X G gCInvalidTimes), (allL_cons hcCommandError (kt_CommandError_InvalidTimes) (allL_cons hcInvalidCode (kt_InvalidCode_InvalidTimes) (allL_cons hcInvalidCountdowns (kt_InvalidCountdowns_InvalidTimes) (allL_cons hcInvalidEntries (kt_InvalidEntries_InvalidTimes) (allL_cons hcInvalidEntry (kt_InvalidEntry_InvalidTimes) (allL_cons hcInvalidInstructionSet (kt_InvalidInstructionSet_InvalidTimes) (allL_cons hcInvalidLengths (kt_InvalidLengths_InvalidTimes) (allL_cons hcInvalidNumber (kt_InvalidNumber_InvalidTimes) (allL_cons hcInvalidOffset (kt_InvalidOffset_InvalidTimes) (allL_cons hcInvalidProgram (kt_InvalidProgram_InvalidTimes) (allL_cons hcInvalidTimes (kt_InvalidTimes_InvalidTimes) (allL_cons hcNothingToUndo (kt_NothingToUndo_InvalidTimes) (allL_cons hcParseError (kt_ParseError_InvalidTimes) (allL_cons hcTooLong (kt_TooLong_InvalidTimes) (allL_cons hcTooManyStates (kt_TooManyStates_InvalidTimes) (allL_cons hcOverlapError (kt_OverlapError_InvalidTimes) allL_nil))))))))))))))))⟩
  have t_i_NothingToUndo : IsT K mg cls ["CommandError", "InvalidCode", "InvalidCountdowns", "InvalidEntries", "InvalidEntry", "InvalidInstructionSet", "InvalidLengths", "InvalidNumber", "InvalidOffset", "InvalidProgram", "InvalidTimes", "NothingToUndo", "ParseError", "TooLong", "TooManyStates", "OverlapError"] "NothingToUndo" := ⟨.ref CNothingToUndo, .ref CNothingToUndo, rfl, rfl, .inl (PySem.W.mg_of X G gCNothingToUndo), (allL_cons hcCommandError (kt_CommandError_NothingToUndo) (allL_cons hcInvalidCode (kt_InvalidCode_NothingToUndo) (allL_cons hcInvalidCountdowns (kt_InvalidCountdowns_NothingToUndo) (allL_cons hcInvalidEntries (kt_InvalidEntries_NothingToUndo) (allL_cons hcInvalidEntry (kt_InvalidEntry_NothingToUndo) (allL_cons hcInvalidInstructionSet (kt_InvalidInstructionSet_NothingToUndo) (allL_cons hcInvalidLengths (kt_InvalidLengths_NothingToUndo) (allL_cons hcInvalidNumber (kt_InvalidNumber_NothingToUndo) (allL_cons hcInvalidOffset (kt_InvalidOffset_NothingToUndo) (allL_cons hcInvalidProgram (kt_InvalidProgram_NothingToUndo) (allL_cons hcInvalidTimes (kt_InvalidTimes_NothingToUndo) (allL_cons hcNothingToUndo (kt_NothingToUndo_NothingToUndo) (allL_cons hcParseError (kt_ParseError_NothingToUndo) (allL_cons hcTooLong (kt_TooLong_NothingToUndo) (allL_cons hcTooManyStates (kt_TooManyStates_NothingToUndo) (allL_cons hcOverlapError (kt_OverlapError_NothingToUndo) allL_nil))))))))))))))))⟩
  have t_i_OverlapError : IsT K mg cls ["CommandError", "InvalidCode", "InvalidCountdowns", "InvalidEntries", "InvalidEntry", "InvalidInstructionSet", "InvalidLengths", "InvalidNumber", "InvalidOffset", "InvalidProgram", "InvalidTimes", "NothingToUndo", "ParseError", "TooLong", "TooManyStates", "OverlapError"] "OverlapError" := ⟨.ref COverlapError, .ref COverlapError, rfl, rfl, .inl (PySem.W.mg_of X G gCOverlapError), (allL_cons hcCommandError (kt_CommandError_OverlapError) (allL_cons hcInvalidCode (kt_InvalidCode_OverlapError) (allL_cons hcInvalidCountdowns (kt_InvalidCountdowns_OverlapError) (allL_cons hcInvalidEntries (kt_InvalidEntries_OverlapError) (allL_cons hcInvalidEntry (kt_InvalidEntry_OverlapError) (allL_cons hcInvalidInstructionSet (kt_InvalidInstructionSet_OverlapError) (allL_cons hcInvalidLengths (kt_InvalidLengths_OverlapError) (allL_cons hcInvalidNumber (kt_InvalidNumber_OverlapError) (allL_cons hcInvalidOffset (kt_InvalidOffset_OverlapError) (allL_cons hcInvalidProgram (kt_InvalidProgram_OverlapError) (allL_cons hcInvalidTimes (kt_InvalidTimes_OverlapError) (allL_cons hcNothingToUndo (kt_NothingToUndo_OverlapError) (allL_cons hcParseError (kt_ParseError_OverlapError) (allL_cons hcTooLong (kt_TooLong_OverlapError) (allL_cons hcTooManyStates (kt_TooManyStates_OverlapError) (allL_cons hcOverlapError (kt_OverlapError_OverlapError) allL_nil))))))))))))))))⟩
  have t_i_ParseError : IsT K mg cls ["CommandError", "InvalidCode", "InvalidCountdowns", "InvalidEntries", "InvalidEntry", "InvalidInstructionSet", "InvalidLengths", "InvalidNumber", "InvalidOffset", "InvalidProgram", "InvalidTimes", "NothingToUndo", "ParseError", "TooLong", "TooManyStates", "OverlapError"] "ParseError" := ⟨.ref CParseError, .ref CParseError, rfl, rfl, .inl (PySem.W.mg_of X G gCParseError), (allL_cons hcCommandError (kt_CommandError_ParseError) (allL_cons hcInvalidCode (kt_InvalidCode_ParseError) (allL_cons hcInvalidCountdowns (kt_InvalidCountdowns_ParseError) (allL_cons hcInvalidEntries (kt_InvalidEntries_ParseError) (allL_cons hcInvalidEntry (kt_InvalidEntry_ParseError) (allL_cons hcInvalidInstructionSet (kt_InvalidInstructionSet_ParseError) (allL_cons hcInvalidLengths (kt_InvalidLengths_ParseError) (allL_cons hcInvalidNumber (kt_InvalidNumber_ParseError) (allL_cons hcInvalidOffset (kt_InvalidOffset_ParseError) (allL_cons hcInvalidProgram (kt_InvalidProgram_ParseError) (allL_cons hcInvalidTimes (kt_InvalidTimes_ParseError) (allL_cons hcNothingToUndo (kt_NothingToUndo_ParseError) (allL_cons hcParseError (kt_ParseError_ParseError) (allL_cons hcTooLong (kt_TooLong_ParseError) (allL_cons hcTooManyStates (kt_TooManyStates_ParseError) (allL_cons hcOverlapError (kt_OverlapError_ParseError) allL_nil))))))))))))))))⟩
  have t_i_TooLong : IsT K mg cls ["CommandError", "InvalidCode", "InvalidCountdowns", "InvalidEntries", "InvalidEntry", "InvalidInstructionSet", "InvalidLengths", "InvalidNumber", "InvalidOffset", "InvalidProgram", "InvalidTimes", "NothingToUndo", "ParseError", "TooLong", "TooManyStates", "OverlapError"] "TooLong" := ⟨.ref CTooLong, .ref CTooLong, rfl, rfl, .inl (PySem.W.mg_of X G gCTooLong), (allL_cons hcCommandError (kt_CommandError_TooLong) (allL_cons hcInvalidCode (kt_InvalidCode_TooLong) (allL_cons hcInvalidCountdowns (kt_InvalidCountdowns_TooLong) (allL_cons hcInvalidEntries (kt_InvalidEntries_TooLong) (allL_cons hcInvalidEntry (kt_InvalidEntry_TooLong) (allL_cons hcInvalidInstructionSet (kt_InvalidInstructionSet_TooLong) (allL_cons hcInvalidLengths (kt_InvalidLengths_TooLong) (allL_cons hcInvalidNumber (kt_InvalidNumber_TooLong) (allL_cons hcInvalidOffset (kt_InvalidOffset_TooLong) (allL_cons hcInvalidProgram (kt_InvalidProgram_TooLong) (allL_cons hcInvalidTimes (kt_InvalidTimes_TooLong) (allL_cons hcNothingToUndo (kt_NothingToUndo_TooLong) (allL_cons hcParseError (kt_ParseError_TooLong) (allL_cons hcTooLong (kt_TooLong_TooLong) (allL_cons hcTooManyStates (kt_TooManyStates_TooLong) (allL_cons hcOverlapError (kt_OverlapError_TooLong) allL_nil))))))))))))))))⟩
  have t_i_TooManyStates : IsT K mg cls ["CommandError", "InvalidCode", "InvalidCountdowns", "InvalidEntries", "InvalidEntry", "InvalidInstructionSet", "InvalidLengths", "InvalidNumber", "InvalidOffset", "InvalidProgram", "InvalidTimes", "NothingToUndo", "ParseError", "TooLong", "TooManyStates", "OverlapError"] "TooManyStates" := ⟨.ref CTooManyStates, .ref CTooManyStates, rfl, rfl, .inl (PySem.W.mg_of X G gCTooManyStates), (allL_cons hcCommandError (kt_CommandError_TooManyStates) (allL_cons hcInvalidCode (kt_InvalidCode_TooManyStates) (allL_cons hcInvalidCountdowns (kt_InvalidCountdowns_TooManyStates) (allL_cons hcInvalidEntries (kt_InvalidEntries_TooManyStates) (allL_cons hcInvalidEntry (kt_InvalidEntry_TooManyStates) (allL_cons hcInvalidInstructionSet (kt_InvalidInstructionSet_TooManyStates) (allL_cons hcInvalidLengths (kt_InvalidLengths_TooManyStates) (allL_cons hcInvalidNumber (kt_InvalidNumber_TooManyStates) (allL_cons hcInvalidOffset (kt_InvalidOffset_TooManyStates) (allL_cons hcInvalidProgram (kt_InvalidProgram_TooManyStates) (allL_cons hcInvalidTimes (kt_InvalidTimes_TooManyStates) (allL_cons hcNothingToUndo (kt_NothingToUndo_TooManyStates) (allL_cons hcParseError (kt_ParseError_TooManyStates) (allL_cons hcTooLong (kt_TooLong_TooManyStates) (allL_cons hcTooManyStates (kt_TooManyStates_TooManyStates) (allL_cons hcOverlapError (kt_OverlapError_TooManyStates) allL_nil))))))))))))))))⟩
  have t_i_ValueError : IsT K mg cls ["CommandError", "InvalidCode", "InvalidCountdowns", "InvalidEntries", "InvalidEntry", "InvalidInstructionSet", "InvalidLengths", "InvalidNumber", "InvalidOffset", "InvalidProgram", "InvalidTimes", "NothingToUndo", "ParseError", "TooLong", "TooManyStates", "OverlapError"] "ValueError" := ⟨.ty "ValueError", .type "ValueError", rfl, rfl, .inr ⟨PySem.W.mg_none_of X G b_ValueError, by decide +kernel⟩, (allL_cons hcCommandError (kt_CommandError_ValueError) (allL_cons hcInvalidCode (kt_InvalidCode_ValueError) (allL_cons hcInvalidCountdowns (kt_InvalidCountdowns_ValueError) (allL_cons hcInvalidEntries (kt_InvalidEntries_ValueError) (allL_cons hcInvalidEntry (kt_InvalidEntry_ValueError) (allL_cons hcInvalidInstructionSet (kt_InvalidInstructionSet_ValueError) (allL_cons hcInvalidLengths (kt_InvalidLengths_ValueError) (allL_cons hcInvalidNumber (kt_InvalidNumber_ValueError) (allL_cons hcInvalidOffset (kt_InvalidOffset_ValueError) (allL_cons hcInvalidProgram (kt_InvalidProgram_ValueError) (allL_cons hcInvalidTimes (kt_InvalidTimes_ValueError) (allL_cons hcNothingToUndo (kt_NothingToUndo_ValueError) (allL_cons hcParseError (kt_ParseError_ValueError) (allL_cons hcTooLong (kt_TooLong_ValueError) (allL_cons hcTooManyStates (kt_TooManyStates_ValueError) (allL_cons hcOverlapError (kt_OverlapError_ValueError) allL_nil))))))))))))))))⟩
  have t_x_count : ∀ c Ca, ["CommandError", "InvalidCode", "InvalidCountdowns", "InvalidEntries", "InvalidEntry", "InvalidInstructionSet", "InvalidLengths", "InvalidNumber", "InvalidOffset", "InvalidProgram", "InvalidTimes", "NothingToUndo", "ParseError", "TooLong", "TooManyStates", "OverlapError"].contains c = true → cls c = some Ca → PySem.W.findIn K (.ref Ca) (PySem.Str.ofString "count") = some none := (allL_cons hcCommandError (nfeCommandErrorcount) (allL_cons hcInvalidCode (nfeInvalidCodecount) (allL_cons hcInvalidCountdowns (nfeInvalidCountdownscount) (allL_cons hcInvalidEntries (nfeInvalidEntriescount) (allL_cons hcInvalidEntry (nfeInvalidEntrycount) (allL_cons hcInvalidInstructionSet (nfeInvalidInstructionSetcount) (allL_cons hcInvalidLengths (nfeInvalidLengthscount) (allL_cons hcInvalidNumber (nfeInvalidNumbercount) (allL_cons hcInvalidOffset (nfeInvalidOffsetcount) (allL_cons hcInvalidProgram (nfeInvalidProgramcount) (allL_cons hcInvalidTimes (nfeInvalidTimescount) (allL_cons hcNothingToUndo (nfeNothingToUndocount) (allL_cons hcParseError (nfeParseErrorcount) (allL_cons hcTooLong (nfeTooLongcount) (allL_cons hcTooManyStates (nfeTooManyStatescount) (allL_cons hcOverlapError (nfeOverlapErrorcount) allL_nil))))))))))))))))
  have t_x_field : ∀ c Ca, ["CommandError", "InvalidCode", "InvalidCountdowns", "InvalidEntries", "InvalidEntry", "InvalidInstructionSet", "InvalidLengths", "InvalidNumber", "InvalidOffset", "InvalidProgram", "InvalidTimes", "NothingToUndo", "ParseError", "TooLong", "TooManyStates", "OverlapError"].contains c = true → cls c = some Ca → PySem.W.findIn K (.ref Ca) (PySem.Str.ofString "field") = some none := (allL_cons hcCommandError (nfeCommandErrorfield) (allL_cons hcInvalidCode (nfeInvalidCodefield) (allL_cons hcInvalidCountdowns (nfeInvalidCountdownsfield) (allL_cons hcInvalidEntries (nfeInvalidEntriesfield) (allL_cons hcInvalidEntry (nfeInvalidEntryfield) (allL_cons hcInvalidInstructionSet (nfeInvalidInstructionSetfield) (allL_cons hcInvalidLengths (nfeInvalidLengthsfield) (allL_cons hcInvalidNumber (nfeInvalidNumberfield) (allL_cons hcInvalidOffset (nfeInvalidOffsetfield) (allL_cons hcInvalidProgram (nfeInvalidProgramfield) (allL_cons hcInvalidTimes (nfeInvalidTimesfield) (allL_cons hcNothingToUndo (nfeNothingToUndofield) (allL_cons hcParseError (nfeParseErrorfield) (allL_cons hcTooLong (nfeTooLongfield) (allL_cons hcTooManyStates (nfeTooManyStatesfield) (allL_cons hcOverlapError (nfeOverlapErrorfield) allL_nil))))))))))))))))
  have t_x_line : ∀ c Ca, ["CommandError", "InvalidCode", "InvalidCountdowns", "InvalidEntries", "InvalidEntry", "InvalidInstructionSet", "InvalidLengths", "InvalidNumber", "InvalidOffset", "InvalidProgram", "InvalidTimes", "NothingToUndo", "ParseError", "TooLong", "TooManyStates", "OverlapError"].contains c = true → cls c = some Ca → PySem.W.findIn K (.ref Ca) (PySem.Str.ofString "line") = some none := (allL_cons hcCommandError (nfeCommandErrorline) (allL_cons hcInvalidCode (nfeInvalidCodeline) (allL_cons hcInvalidCountdowns (nfeInvalidCountdownsline) (allL_cons hcInvalidEntries (nfeInvalidEntriesline) (allL_cons hcInvalidEntry (nfeInvalidEntryline) (allL_cons hcInvalidInstructionSet (nfeInvalidInstructionSetline) (allL_cons hcInvalidLengths (nfeInvalidLengthsline) (allL_cons hcInvalidNumber (nfeInvalidNumberline) (allL_cons hcInvalidOffset (nfeInvalidOffsetline) (allL_cons hcInvalidProgram (nfeInvalidProgramline) (allL_cons hcInvalidTimes (nfeInvalidTimesline) (allL_cons hcNothingToUndo (nfeNothingToUndoline) (allL_cons hcParseError (nfeParseErrorline) (allL_cons hcTooLong (nfeTooLongline) (allL_cons hcTooManyStates (nfeTooManyStatesline) (allL_cons hcOverlapError (nfeOverlapErrorline) allL_nil))))))))))))))))
  have t_x_size : ∀ c Ca, ["CommandError", "InvalidCode", "InvalidCountdowns", "InvalidEntries", "InvalidEntry", "InvalidInstructionSet", "InvalidLengths", "InvalidNumber", "InvalidOffset", "InvalidProgram", "InvalidTimes", "NothingToUndo", "ParseError", "TooLong", "TooManyStates", "OverlapError"].contains c = true → cls c = some Ca → PySem.W.findIn K (.ref Ca) (PySem.Str.ofString "size") = some none := (allL_cons hcCommandError (nfeCommandErrorsize) (allL_cons hcInvalidCode (nfeInvalidCodesize) (allL_cons hcInvalidCountdowns (nfeInvalidCountdownssize) (allL_cons hcInvalidEntries (nfeInvalidEntriessize) (allL_cons hcInvalidEntry (nfeInvalidEntrysize) (allL_cons hcInvalidInstructionSet (nfeInvalidInstructionSetsize) (allL_cons hcInvalidLengths (nfeInvalidLengthssize) (allL_cons hcInvalidNumber (nfeInvalidNumbersize) (allL_cons hcInvalidOffset (nfeInvalidOffsetsize) (allL_cons hcInvalidProgram (nfeInvalidProgramsize) (allL_cons hcInvalidTimes (nfeInvalidTimessize) (allL_cons hcNothingToUndo (nfeNothingToUndosize) (allL_cons hcParseError (nfeParseErrorsize) (allL_cons hcTooLong (nfeTooLongsize) (allL_cons hcTooManyStates (nfeTooManyStatessize) (allL_cons hcOverlapError (nfeOverlapErrorsize) allL_nil))))))))))))))))
  have t_x_value : ∀ c Ca, ["CommandError", "InvalidCode", "InvalidCountdowns", "InvalidEntries", "InvalidEntry", "InvalidInstructionSet", "InvalidLengths", "InvalidNumber", "InvalidOffset", "InvalidProgram", "InvalidTimes", "NothingToUndo", "ParseError", "TooLong", "TooManyStates", "OverlapError"].contains c = true → cls c = some Ca → PySem.W.findIn K (.ref Ca) (PySem.Str.ofString "value") = some none := (allL_cons hcCommandError (nfeCommandErrorvalue) (allL_cons hcInvalidCode (nfeInvalidCodevalue) (allL_cons hcInvalidCountdowns (nfeInvalidCountdownsvalue) (allL_cons hcInvalidEntries (nfeInvalidEntriesvalue) (allL_cons hcInvalidEntry (nfeInvalidEntryvalue) (allL_cons hcInvalidInstructionSet (nfeInvalidInstructionSetvalue) (allL_cons hcInvalidLengths (nfeInvalidLengthsvalue) (allL_cons hcInvalidNumber (nfeInvalidNumbervalue) (allL_cons hcInvalidOffset (nfeInvalidOffsetvalue) (allL_cons hcInvalidProgram (nfeInvalidProgramvalue) (allL_cons hcInvalidTimes (nfeInvalidTimesvalue) (allL_cons hcNothingToUndo (nfeNothingToUndovalue) (allL_cons hcParseError (nfeParseErrorvalue) (allL_cons hcTooLong (nfeTooLongvalue) (allL_cons hcTooManyStates (nfeTooManyStatesvalue) (allL_cons hcOverlapError (nfeOverlapErrorvalue) allL_nil))))))))))))))))
  have t_n_NothingToUndo : ErrN K mg cls "NothingToUndo" := ⟨CNothingToUndo, hcNothingToUndo, xneNothingToUndo, PySem.W.mg_of X G gCNothingToUndo, xkeNothingToUndo, xbeNothingToUndo, xteNothingToUndo⟩
  have t_n_OverlapError : ErrN K mg cls "OverlapError" := ⟨COverlapError, hcOverlapError, xneOverlapError, PySem.W.mg_of X G gCOverlapError, xkeOverlapError, xbeOverlapError, xteOverlapError⟩
  have x_CommandError : OexC K CCommandError := ⟨⟨_, _, _, _, _, _, _, _, _, _, _, _, _, _, _, oeCommandError, vEeCommandError⟩, saeCommandError, xbeCommandError, xteCommandError, xkeCommandError⟩
  have F_CommandError := fun_mk (st := s_e_CommandError) leCommandError ceCommandError keCommandError
  have t_e_CommandError : ErrT l.prog w K mg base cls "CommandError" "line" := ⟨CCommandError, hcCommandError, x_CommandError, PySem.W.mg_of X G gCCommandError, feCommandError, _, _, aeCommandError, teCommandError, err_fn F_CommandError x_CommandError nfeCommandErrorline sc_e_CommandError rfl (Or.inl rfl) (Or.inl rfl) (by decide) (by decide) (fun _ => rfl), F_CommandError.binds (fun _ _ _ _ _ _ us hl => match us, hl with | [_, _], _ => rfl)⟩
  have x_InvalidCode : OexC K CInvalidCode := ⟨⟨_, _, _, _, _, _, _, _, _, _, _, _, _, _, _, oeInvalidCode, vEeInvalidCode⟩, saeInvalidCode, xbeInvalidCode, xteInvalidCode, xkeInvalidCode⟩
  have F_InvalidCode := fun_mk (st := s_e_InvalidCode) leInvalidCode ceInvalidCode keInvalidCode
  have t_e_InvalidCode : ErrT l.prog w K mg base cls "InvalidCode" "value" := ⟨CInvalidCode, hcInvalidCode, x_InvalidCode, PySem.W.mg_of X G gCInvalidCode, feInvalidCode, _, _, aeInvalidCode, teInvalidCode, err_fn F_InvalidCode x_InvalidCode nfeInvalidCodevalue sc_e_InvalidCode rfl (Or.inl rfl) (Or.inl rfl) (by decide) (by decide) (fun _ => rfl), F_InvalidCode.binds (fun _ _ _ _ _ _ us hl => match us, hl with | [_, _], _ => rfl)⟩
  have x_InvalidCountdowns : OexC K CInvalidCountdowns := ⟨⟨_, _, _, _, _, _, _, _, _, _, _, _, _, _, _, oeInvalidCountdowns, vEeInvalidCountdowns⟩, saeInvalidCountdowns, xbeInvalidCountdowns, xteInvalidCountdowns, xkeInvalidCountdowns⟩
  have F_InvalidCountdowns := fun_mk (st := s_e_InvalidCountdowns) leInvalidCountdowns ceInvalidCountdowns keInvalidCountdowns
  have t_e_InvalidCountdowns : ErrT l.prog w K mg base cls "InvalidCountdowns" "value" := ⟨CInvalidCountdowns, hcInvalidCountdowns, x_InvalidCountdowns, PySem.W.mg_of X G gCInvalidCountdowns, feInvalidCountdowns, _, _, aeInvalidCountdowns, teInvalidCountdowns, err_fn F_InvalidCountdowns x_InvalidCountdowns nfeInvalidCountdownsvalue sc_e_InvalidCountdowns rfl (Or.inl rfl) (Or.inl rfl) (by decide) (by decide) (fun _ => rfl), F_InvalidCountdowns.binds (fun _ _ _ _ _ _ us hl => match us, hl with | [_, _], _ => rfl)⟩
  have x_InvalidEntries : OexC K CInvalidEntries := ⟨⟨_, _, _, _, _, _, _, _, _, _, _, _, _, _, _, oeInvalidEntries, vEeInvalidEntries⟩, saeInvalidEntries, xbeInvalidEntries, xteInvalidEntries, xkeInvalidEntries⟩
  have F_InvalidEntries := fun_mk (st := s_e_InvalidEntries) leInvalidEntries ceInvalidEntries keInvalidEntries
  have t_e_InvalidEntries : ErrT l.prog w K mg base cls "InvalidEntries" "value" := ⟨CInvalidEntries, hcInvalidEntries, x_InvalidEntries, PySem.W.mg_of X G gCInvalidEntries, feInvalidEntries, _, _, aeInvalidEntries, teInvalidEntries, err_fn F_InvalidEntries x_InvalidEntries nfeInvalidEntriesvalue sc_e_InvalidEntries rfl (Or.inl rfl) (Or.inl rfl) (by decide) (by decide) (fun _ => rfl), F_InvalidEntries.binds (fun _ _ _ _ _ _ us hl => match us, hl with | [_, _], _ => rfl)⟩
  have x_InvalidEntry : OexC K CInvalidEntry := ⟨⟨_, _, _, _, _, _, _, _, _, _, _, _, _, _, _, oeInvalidEntry, vEeInvalidEntry⟩, saeInvalidEntry, xbeInvalidEntry, xteInvalidEntry, xkeInvalidEntry⟩
  have F_InvalidEntry := fun_mk (st := s_e_InvalidEntry) leInvalidEntry ceInvalidEntry keInvalidEntry
  have t_e_InvalidEntry : ErrT l.prog w K mg base cls "InvalidEntry" "value" := ⟨CInvalidEntry, hcInvalidEntry, x_InvalidEntry, PySem.W.mg_of X G gCInvalidEntry, feInvalidEntry, _, _, aeInvalidEntry, teInvalidEntry, err_fn F_InvalidEntry x_InvalidEntry nfeInvalidEntryvalue sc_e_InvalidEntry rfl (Or.inl rfl) (Or.inl rfl) (by decide) (by decide) (fun _ => rfl), F_InvalidEntry.binds (fun _ _ _ _ _ _ us hl => match us, hl with | [_, _], _ => rfl)⟩
  have x_InvalidInstructionSet : OexC K CInvalidInstructionSet := ⟨⟨_, _, _, _, _, _, _, _, _, _, _, _, _, _, _, oeInvalidInstructionSet, vEeInvalidInstructionSet⟩, saeInvalidInstructionSet, xbeInvalidInstructionSet, xteInvalidInstructionSet, xkeInvalidInstructionSet⟩
  have F_InvalidInstructionSet := fun_mk (st := s_e_InvalidInstructionSet) leInvalidInstructionSet ceInvalidInstructionSet keInvalidInstructionSet
  have t_e_InvalidInstructionSet : ErrT l.prog w K mg base cls "InvalidInstructionSet" "field" := ⟨CInvalidInstructionSet, hcInvalidInstructionSet, x_InvalidInstructionSet, PySem.W.mg_of X G gCInvalidInstructionSet, feInvalidInstructionSet, _, _, aeInvalidInstructionSet, teInvalidInstructionSet, err_fn F_InvalidInstructionSet x_InvalidInstructionSet nfeInvalidInstructionSetfield sc_e_InvalidInstructionSet rfl (Or.inl rfl) (Or.inl rfl) (by decide) (by decide) (fun _ => rfl), F_InvalidInstructionSet.binds (fun _ _ _ _ _ _ us hl => match us, hl with | [_, _], _ => rfl)⟩
  have x_InvalidLengths : OexC K CInvalidLengths := ⟨⟨_, _, _, _, _, _, _, _, _, _, _, _, _, _, _, oeInvalidLengths, vEeInvalidLengths⟩, saeInvalidLengths, xbeInvalidLengths, xteInvalidLengths, xkeInvalidLengths⟩
  have F_InvalidLengths := fun_mk (st := s_e_InvalidLengths) leInvalidLengths ceInvalidLengths keInvalidLengths
  have t_e_InvalidLengths : ErrT l.prog w K mg base cls "InvalidLengths" "value" := ⟨CInvalidLengths, hcInvalidLengths, x_InvalidLengths, PySem.W.mg_of X G gCInvalidLengths, feInvalidLengths, _, _, aeInvalidLengths, teInvalidLengths, err_fn F_InvalidLengths x_InvalidLengths nfeInvalidLengthsvalue sc_e_InvalidLengths rfl (Or.inl rfl) (Or.inl rfl) (by decide) (by decide) (fun _ => rfl), F_InvalidLengths.binds (fun _ _ _ _ _ _ us hl => match us, hl with | [_, _], _ => rfl)⟩
  have x_InvalidNumber : OexC K CInvalidNumber := ⟨⟨_, _, _, _, _, _, _, _, _, _, _, _, _, _, _, oeInvalidNumber, vEeInvalidNumber⟩, saeInvalidNumber, xbeInvalidNumber, xteInvalidNumber, xkeInvalidNumber⟩
  have F_InvalidNumber := fun_mk (st := s_e_InvalidNumber) leInvalidNumber ceInvalidNumber keInvalidNumber
  have t_e_InvalidNumber : ErrT l.prog w K mg base cls "InvalidNumber" "value" := ⟨CInvalidNumber, hcInvalidNumber, x_InvalidNumber, PySem.W.mg_of X G gCInvalidNumber, feInvalidNumber, _, _, aeInvalidNumber, teInvalidNumber, err_fn F_InvalidNumber x_InvalidNumber nfeInvalidNumbervalue sc_e_InvalidNumber rfl (Or.inl rfl) (Or.inl rfl) (by decide) (by decide) (fun _ => rfl), F_InvalidNumber.binds (fun _ _ _ _ _ _ us hl => match us, hl with | [_, _], _ => rfl)⟩
  have x_InvalidOffset : OexC K CInvalidOffset := ⟨⟨_, _, _, _, _, _, _, _, _, _, _, _, _, _, _, oeInvalidOffset, vEeInvalidOffset⟩, saeInvalidOffset, xbeInvalidOffset, xteInvalidOffset, xkeInvalidOffset⟩
  have F_InvalidOffset := fun_mk (st := s_e_InvalidOffset) leInvalidOffset ceInvalidOffset keInvalidOffset
  have t_e_InvalidOffset : ErrT l.prog w K mg base cls "InvalidOffset" "value" := ⟨CInvalidOffset, hcInvalidOffset, x_InvalidOffset, PySem.W.mg_of X G gCInvalidOffset, feInvalidOffset, _, _, aeInvalidOffset, teInvalidOffset, err_fn F_InvalidOffset x_InvalidOffset nfeInvalidOffsetvalue sc_e_InvalidOffset rfl (Or.inl rfl) (Or.inl rfl) (by decide) (by decide) (fun _ => rfl), F_InvalidOffset.binds (fun _ _ _ _ _ _ us hl => match us, hl with | [_, _], _ => rfl)⟩
  have x_InvalidProgram : OexC K CInvalidProgram := ⟨⟨_, _, _, _, _, _, _, _, _, _, _, _, _, _, _, oeInvalidProgram, vEeInvalidProgram⟩, saeInvalidProgram, xbeInvalidProgram, xteInvalidProgram, xkeInvalidProgram⟩
  have F_InvalidProgram := fun_mk (st := s_e_InvalidProgram) leInvalidProgram ceInvalidProgram keInvalidProgram
  have t_e_InvalidProgram : ErrT l.prog w K mg base cls "InvalidProgram" "value" := ⟨CInvalidProgram, hcInvalidProgram, x_InvalidProgram, PySem.W.mg_of X G gCInvalidProgram, feInvalidProgram, _, _, aeInvalidProgram, teInvalidProgram, err_fn F_InvalidProgram x_InvalidProgram nfeInvalidProgramvalue sc_e_InvalidProgram rfl (Or.inl rfl) (Or.inl rfl) (by decide) (by decide) (fun _ => rfl), F_InvalidProgram.binds (fun _ _ _ _ _ _ us hl => match us, hl with | [_, _], _ => rfl)⟩
  have x_InvalidTimes : OexC K CInvalidTimes := ⟨⟨_, _, _, _, _, _, _, _, _, _, _, _, _, _, _, oeInvalidTimes, vEeInvalidTimes⟩, saeInvalidTimes, xbeInvalidTimes, xteInvalidTimes, xkeInvalidTimes⟩
  have F_InvalidTimes := fun_mk (st := s_e_InvalidTimes) leInvalidTimes ceInvalidTimes keInvalidTimes
  have t_e_InvalidTimes : ErrT l.prog w K mg base cls "InvalidTimes" "value" := ⟨CInvalidTimes, hcInvalidTimes, x_InvalidTimes, PySem.W.mg_of X G gCInvalidTimes, feInvalidTimes, _, _, aeInvalidTimes, teInvalidTimes, err_fn F_InvalidTimes x_InvalidTimes nfeInvalidTimesvalue sc_e_InvalidTimes rfl (Or.inl rfl) (Or.inl rfl) (by decide) (by decide) (fun _ => rfl), F_InvalidTimes.binds (fun _ _ _ _ _ _ us hl => match us, hl with | [_, _], _ => rfl)⟩
  have x_ParseError : OexC K CParseError := ⟨⟨_, _, _, _, _, _, _, _, _, _, _, _, _, _, _, oeParseError, vEeParseError⟩, saeParseError, xbeParseError, xteParseError, xkeParseError⟩
  have F_ParseError := fun_mk (st := s_e_ParseError) leParseError ceParseError keParseError
  have t_e_ParseError : ErrT l.prog w K mg base cls "ParseError" "line" := ⟨CParseError, hcParseError, x_ParseError, PySem.W.mg_of X G gCParseError, feParseError, _, _, aeParseError, teParseError, err_fn F_ParseError x_ParseError nfeParseErrorline sc_e_ParseError rfl (Or.inl rfl) (Or.inl rfl) (by decide) (by decide) (fun _ => rfl), F_ParseError.binds (fun _ _ _ _ _ _ us hl => match us, hl with | [_, _], _ => rfl)⟩
  have x_TooLong : OexC K CTooLong := ⟨⟨_, _, _, _, _, _, _, _, _, _, _, _, _, _, _, oeTooLong, vEeTooLong⟩, saeTooLong, xbeTooLong, xteTooLong, xkeTooLong⟩
  have F_TooLong := fun_mk (st := s_e_TooLong) leTooLong ceTooLong keTooLong
  have t_e_TooLong : ErrT l.prog w K mg base cls "TooLong" "size" := ⟨CTooLong, hcTooLong, x_TooLong, PySem.W.mg_of X G gCTooLong, feTooLong, _, _, aeTooLong, teTooLong, err_fn F_TooLong x_TooLong nfeTooLongsize sc_e_TooLong rfl (Or.inl rfl) (Or.inl rfl) (by decide) (by decide) (fun _ => rfl), F_TooLong.binds (fun _ _ _ _ _ _ us hl => match us, hl with | [_, _], _ => rfl)⟩
  have x_TooManyStates : OexC K CTooManyStates := ⟨⟨_, _, _, _, _, _, _, _, _, _, _, _, _, _, _, oeTooManyStates, vEeTooManyStates⟩, saeTooManyStates, xbeTooManyStates, xteTooManyStates, xkeTooManyStates⟩
  have F_TooManyStates := fun_mk (st := s_e_TooManyStates) leTooManyStates ceTooManyStates keTooManyStates
  have t_e_TooManyStates : ErrT l.prog w K mg base cls "TooManyStates" "count" := ⟨CTooManyStates, hcTooManyStates, x_TooManyStates, PySem.W.mg_of X G gCTooManyStates, feTooManyStates, _, _, aeTooManyStates, teTooManyStates, err_fn F_TooManyStates x_TooManyStates nfeTooManyStatescount sc_e_TooManyStates rfl (Or.inl rfl) (Or.inl rfl) (by decide) (by decide) (fun _ => rfl), F_TooManyStates.binds (fun _ _ _ _ _ _ us hl => match us, hl with | [_, _], _ => rfl)⟩
  have TT : TX l.prog w K mg base cls [] := ⟨T, t_ex, t_i_CommandError, t_i_InvalidCode, t_i_InvalidCountdowns, t_i_InvalidEntries, t_i_InvalidEntry, t_i_InvalidInstructionSet, t_i_InvalidLengths, t_i_InvalidNumber, t_i_InvalidOffset, t_i_InvalidProgram, t_i_InvalidTimes, t_i_NothingToUndo, t_i_OverlapError, t_i_ParseError, t_i_TooLong, t_i_TooManyStates, t_i_ValueError, t_x_count, t_x_field, t_x_line, t_x_size, t_x_value, t_e_CommandError, t_e_InvalidCode, t_e_InvalidCountdowns, t_e_InvalidEntries, t_e_InvalidEntry, t_e_InvalidInstructionSet, t_e_InvalidLengths, t_e_InvalidNumber, t_e_InvalidOffset, t_e_InvalidProgram, t_e_InvalidTimes, t_e_ParseError, t_e_TooLong, t_e_TooManyStates, t_n_NothingToUndo, t_n_OverlapError, ⟨_, _, A_l_kinds⟩, ⟨_, _, A_l_box⟩, ⟨_, _, A_l_take⟩, ⟨_, _, A_l_made⟩⟩
  have F := fnG_mk (P := l.prog) (w := w) (base := base) A_law.fn sc_law (spM_len (C := ⟨K, cls, l.prog, w, []⟩) (xc := false) (f := m_law_k20) rfl) (body_M (n := 8) rfl (qb_law TT))
  exact FnG.mono (law_M F law_k20) (by decide)
end Mi
open PySem PySem.W PyProof.Rows
set_option maxRecDepth 100000 in
set_option maxHeartbeats 0 in
theorem PySem.Challenge.cw_overlapcode_k20_errors_holds : PySem.Challenge.rw_overlapcode_k20_errors.Holds := by
  w_on; o_law; k_head; (case hw => w_witness2)
  k_fill
  refine Ov.walkG (l := PySem.Challenge.rw_overlapcode_k20_errors) (x := "_law_script") rfl rfl (fun w h Y => PySem.W.kIn_of Y) ?F
  case F =>
    intro w mg fa h KX G hmg
    refine' Mi.all_mk KX G hmg ?gCCommandError ?oeCommandError ?vEeCommandError ?saeCommandError ?xbeCommandError ?xteCommandError ?xkeCommandError ?xgeCommandError ?xGeCommandError ?xceCommandError ?xmeCommandError ?xdeCommandError ?xieCommandError ?nfeCommandErrorcount ?nfeCommandErrorfield ?nfeCommandErrorline ?nfeCommandErrorsize ?nfeCommandErrorvalue ?aeCommandError ?teCommandError ?leCommandError ?ceCommandError ?keCommandError ?gCInvalidCode ?oeInvalidCode ?vEeInvalidCode ?saeInvalidCode ?xbeInvalidCode ?xteInvalidCode ?xkeInvalidCode ?xgeInvalidCode ?xGeInvalidCode ?xceInvalidCode ?xmeInvalidCode ?xdeInvalidCode ?xieInvalidCode ?nfeInvalidCodecount ?nfeInvalidCodefield ?nfeInvalidCodeline ?nfeInvalidCodesize ?nfeInvalidCodevalue ?aeInvalidCode ?teInvalidCode ?leInvalidCode ?ceInvalidCode ?keInvalidCode ?gCInvalidCountdowns ?oeInvalidCountdowns ?vEeInvalidCountdowns ?saeInvalidCountdowns ?xbeInvalidCountdowns ?xteInvalidCountdowns ?xkeInvalidCountdowns ?xgeInvalidCountdowns ?xGeInvalidCountdowns ?xceInvalidCountdowns ?xmeInvalidCountdowns ?xdeInvalidCountdowns ?xieInvalidCountdowns ?nfeInvalidCountdownscount ?nfeInvalidCountdownsfield ?nfeInvalidCountdownsline ?nfeInvalidCountdownssize ?nfeInvalidCountdownsvalue ?aeInvalidCountdowns ?teInvalidCountdowns ?leInvalidCountdowns ?ceInvalidCountdowns ?keInvalidCountdowns ?gCInvalidEntries ?oeInvalidEntries ?vEeInvalidEntries ?saeInvalidEntries ?xbeInvalidEntries ?xteInvalidEntries ?xkeInvalidEntries ?xgeInvalidEntries ?xGeInvalidEntries ?xceInvalidEntries ?xmeInvalidEntries ?xdeInvalidEntries ?xieInvalidEntries ?nfeInvalidEntriescount ?nfeInvalidEntriesfield ?nfeInvalidEntriesline ?nfeInvalidEntriessize ?nfeInvalidEntriesvalue ?aeInvalidEntries ?teInvalidEntries ?leInvalidEntries ?ceInvalidEntries ?keInvalidEntries ?gCInvalidEntry ?oeInvalidEntry ?vEeInvalidEntry ?saeInvalidEntry ?xbeInvalidEntry ?xteInvalidEntry ?xkeInvalidEntry ?xgeInvalidEntry ?xGeInvalidEntry ?xceInvalidEntry ?xmeInvalidEntry ?xdeInvalidEntry ?xieInvalidEntry ?nfeInvalidEntrycount ?nfeInvalidEntryfield ?nfeInvalidEntryline ?nfeInvalidEntrysize ?nfeInvalidEntryvalue ?aeInvalidEntry ?teInvalidEntry ?leInvalidEntry ?ceInvalidEntry ?keInvalidEntry ?gCInvalidInstructionSet ?oeInvalidInstructionSet ?vEeInvalidInstructionSet ?saeInvalidInstructionSet ?xbeInvalidInstructionSet ?xteInvalidInstructionSet ?xkeInvalidInstructionSet ?xgeInvalidInstructionSet ?xGeInvalidInstructionSet ?xceInvalidInstructionSet ?xmeInvalidInstructionSet ?xdeInvalidInstructionSet ?xieInvalidInstructionSet ?nfeInvalidInstructionSetcount ?nfeInvalidInstructionSetfield ?nfeInvalidInstructionSetline ?nfeInvalidInstructionSetsize ?nfeInvalidInstructionSetvalue ?aeInvalidInstructionSet ?teInvalidInstructionSet ?leInvalidInstructionSet ?ceInvalidInstructionSet ?keInvalidInstructionSet ?gCInvalidLengths ?oeInvalidLengths ?vEeInvalidLengths ?saeInvalidLengths ?xbeInvalidLengths ?xteInvalidLengths ?xkeInvalidLengths ?xgeInvalidLengths ?xGeInvalidLengths ?xceInvalidLengths ?xmeInvalidLengths ?xdeInvalidLengths ?xieInvalidLengths ?nfeInvalidLengthscount ?nfeInvalidLengthsfield ?nfeInvalidLengthsline ?nfeInvalidLengthssize ?nfeInvalidLengthsvalue ?aeInvalidLengths ?teInvalidLengths ?leInvalidLengths ?ceInvalidLengths ?keInvalidLengths ?gCInvalidNumber ?oeInvalidNumber ?vEeInvalidNumber ?saeInvalidNumber ?xbeInvalidNumber ?xteInvalidNumber ?xkeInvalidNumber ?xgeInvalidNumber ?xGeInvalidNumber ?xceInvalidNumber ?xmeInvalidNumber ?xdeInvalidNumber ?xieInvalidNumber ?nfeInvalidNumbercount ?nfeInvalidNumberfield ?nfeInvalidNumberline ?nfeInvalidNumbersize ?nfeInvalidNumbervalue ?aeInvalidNumber ?teInvalidNumber ?leInvalidNumber ?ceInvalidNumber ?keInvalidNumber ?gCInvalidOffset ?oeInvalidOffset ?vEeInvalidOffset ?saeInvalidOffset ?xbeInvalidOffset ?xteInvalidOffset ?xkeInvalidOffset ?xgeInvalidOffset ?xGeInvalidOffset ?xceInvalidOffset ?xmeInvalidOffset ?xdeInvalidOffset ?xieInvalidOffset ?nfeInvalidOffsetcount ?nfeInvalidOffsetfield ?nfeInvalidOffsetline ?nfeInvalidOffsetsize ?nfeInvalidOffsetvalue ?aeInvalidOffset ?teInvalidOffset ?leInvalidOffset ?ceInvalidOffset ?keInvalidOffset ?gCInvalidProgram ?oeInvalidProgram ?vEeInvalidProgram ?saeInvalidProgram ?xbeInvalidProgram ?xteInvalidProgram ?xkeInvalidProgram ?xgeInvalidProgram ?xGeInvalidProgram ?xceInvalidProgram ?xmeInvalidProgram ?xdeInvalidProgram ?xieInvalidProgram ?nfeInvalidProgramcount ?nfeInvalidProgramfield ?nfeInvalidProgramline ?nfeInvalidProgramsize ?nfeInvalidProgramvalue ?aeInvalidProgram ?teInvalidProgram ?leInvalidProgram ?ceInvalidProgram ?keInvalidProgram ?gCInvalidTimes ?oeInvalidTimes ?vEeInvalidTimes ?saeInvalidTimes ?xbeInvalidTimes ?xteInvalidTimes ?xkeInvalidTimes ?xgeInvalidTimes ?xGeInvalidTimes ?xceInvalidTimes ?xmeInvalidTimes ?xdeInvalidTimes ?xieInvalidTimes ?nfeInvalidTimescount ?nfeInvalidTimesfield ?nfeInvalidTimesline ?nfeInvalidTimessize ?nfeInvalidTimesvalue ?aeInvalidTimes ?teInvalidTimes ?leInvalidTimes ?ceInvalidTimes ?keInvalidTimes ?gCNothingToUndo ?oeNothingToUndo ?vEeNothingToUndo ?saeNothingToUndo ?xbeNothingToUndo ?xteNothingToUndo ?xkeNothingToUndo ?xgeNothingToUndo ?xGeNothingToUndo ?xceNothingToUndo ?xmeNothingToUndo ?xdeNothingToUndo ?xieNothingToUndo ?nfeNothingToUndocount ?nfeNothingToUndofield ?nfeNothingToUndoline ?nfeNothingToUndosize ?nfeNothingToUndovalue ?xneNothingToUndo ?gCParseError ?oeParseError ?vEeParseError ?saeParseError ?xbeParseError ?xteParseError ?xkeParseError ?xgeParseError ?xGeParseError ?xceParseError ?xmeParseError ?xdeParseError ?xieParseError ?nfeParseErrorcount ?nfeParseErrorfield ?nfeParseErrorline ?nfeParseErrorsize ?nfeParseErrorvalue ?aeParseError ?teParseError ?leParseError ?ceParseError ?keParseError ?gCTooLong ?oeTooLong ?vEeTooLong ?saeTooLong ?xbeTooLong ?xteTooLong ?xkeTooLong ?xgeTooLong ?xGeTooLong ?xceTooLong ?xmeTooLong ?xdeTooLong ?xieTooLong ?nfeTooLongcount ?nfeTooLongfield ?nfeTooLongline ?nfeTooLongsize ?nfeTooLongvalue ?aeTooLong ?teTooLong ?leTooLong ?ceTooLong ?keTooLong ?gCTooManyStates ?oeTooManyStates ?vEeTooManyStates ?saeTooManyStates ?xbeTooManyStates ?xteTooManyStates ?xkeTooManyStates ?xgeTooManyStates ?xGeTooManyStates ?xceTooManyStates ?xmeTooManyStates ?xdeTooManyStates ?xieTooManyStates ?nfeTooManyStatescount ?nfeTooManyStatesfield ?nfeTooManyStatesline ?nfeTooManyStatessize ?nfeTooManyStatesvalue ?aeTooManyStates ?teTooManyStates ?leTooManyStates ?ceTooManyStates ?keTooManyStates ?gCOverlapError ?oeOverlapError ?vEeOverlapError ?saeOverlapError ?xbeOverlapError ?xteOverlapError ?xkeOverlapError ?xgeOverlapError ?xGeOverlapError ?xceOverlapError ?xmeOverlapError ?xdeOverlapError ?xieOverlapError ?nfeOverlapErrorcount ?nfeOverlapErrorfield ?nfeOverlapErrorline ?nfeOverlapErrorsize ?nfeOverlapErrorvalue ?xneOverlapError ?xcg ?xct ?kt_CommandError_CommandError ?kt_InvalidCode_CommandError ?kt_InvalidCountdowns_CommandError ?kt_InvalidEntries_CommandError ?kt_InvalidEntry_CommandError ?kt_InvalidInstructionSet_CommandError ?kt_InvalidLengths_CommandError ?kt_InvalidNumber_CommandError ?kt_InvalidOffset_CommandError ?kt_InvalidProgram_CommandError ?kt_InvalidTimes_CommandError ?kt_NothingToUndo_CommandError ?kt_ParseError_CommandError ?kt_TooLong_CommandError ?kt_TooManyStates_CommandError ?kt_OverlapError_CommandError ?kt_CommandError_InvalidCode ?kt_InvalidCode_InvalidCode ?kt_InvalidCountdowns_InvalidCode ?kt_InvalidEntries_InvalidCode ?kt_InvalidEntry_InvalidCode ?kt_InvalidInstructionSet_InvalidCode ?kt_InvalidLengths_InvalidCode ?kt_InvalidNumber_InvalidCode ?kt_InvalidOffset_InvalidCode ?kt_InvalidProgram_InvalidCode ?kt_InvalidTimes_InvalidCode ?kt_NothingToUndo_InvalidCode ?kt_ParseError_InvalidCode ?kt_TooLong_InvalidCode ?kt_TooManyStates_InvalidCode ?kt_OverlapError_InvalidCode ?kt_CommandError_InvalidCountdowns ?kt_InvalidCode_InvalidCountdowns ?kt_InvalidCountdowns_InvalidCountdowns ?kt_InvalidEntries_InvalidCountdowns ?kt_InvalidEntry_InvalidCountdowns ?kt_InvalidInstructionSet_InvalidCountdowns ?kt_InvalidLengths_InvalidCountdowns ?kt_InvalidNumber_InvalidCountdowns ?kt_InvalidOffset_InvalidCountdowns ?kt_InvalidProgram_InvalidCountdowns ?kt_InvalidTimes_InvalidCountdowns ?kt_NothingToUndo_InvalidCountdowns ?kt_ParseError_InvalidCountdowns ?kt_TooLong_InvalidCountdowns ?kt_TooManyStates_InvalidCountdowns ?kt_OverlapError_InvalidCountdowns ?kt_CommandError_InvalidEntries ?kt_InvalidCode_InvalidEntries ?kt_InvalidCountdowns_InvalidEntries ?kt_InvalidEntries_InvalidEntries ?kt_InvalidEntry_InvalidEntries ?kt_InvalidInstructionSet_InvalidEntries ?kt_InvalidLengths_InvalidEntries ?kt_InvalidNumber_InvalidEntries ?kt_InvalidOffset_InvalidEntries ?kt_InvalidProgram_InvalidEntries ?kt_InvalidTimes_InvalidEntries ?kt_NothingToUndo_InvalidEntries ?kt_ParseError_InvalidEntries ?kt_TooLong_InvalidEntries ?kt_TooManyStates_InvalidEntries ?kt_OverlapError_InvalidEntries ?kt_CommandError_InvalidEntry ?kt_InvalidCode_InvalidEntry ?kt_InvalidCountdowns_InvalidEntry ?kt_InvalidEntries_InvalidEntry ?kt_InvalidEntry_InvalidEntry ?kt_InvalidInstructionSet_InvalidEntry ?kt_InvalidLengths_InvalidEntry ?kt_InvalidNumber_InvalidEntry ?kt_InvalidOffset_InvalidEntry ?kt_InvalidProgram_InvalidEntry ?kt_InvalidTimes_InvalidEntry ?kt_NothingToUndo_InvalidEntry ?kt_ParseError_InvalidEntry ?kt_TooLong_InvalidEntry ?kt_TooManyStates_InvalidEntry ?kt_OverlapError_InvalidEntry ?kt_CommandError_InvalidInstructionSet ?kt_InvalidCode_InvalidInstructionSet ?kt_InvalidCountdowns_InvalidInstructionSet ?kt_InvalidEntries_InvalidInstructionSet ?kt_InvalidEntry_InvalidInstructionSet ?kt_InvalidInstructionSet_InvalidInstructionSet ?kt_InvalidLengths_InvalidInstructionSet ?kt_InvalidNumber_InvalidInstructionSet ?kt_InvalidOffset_InvalidInstructionSet ?kt_InvalidProgram_InvalidInstructionSet ?kt_InvalidTimes_InvalidInstructionSet ?kt_NothingToUndo_InvalidInstructionSet ?kt_ParseError_InvalidInstructionSet ?kt_TooLong_InvalidInstructionSet ?kt_TooManyStates_InvalidInstructionSet ?kt_OverlapError_InvalidInstructionSet ?kt_CommandError_InvalidLengths ?kt_InvalidCode_InvalidLengths ?kt_InvalidCountdowns_InvalidLengths ?kt_InvalidEntries_InvalidLengths ?kt_InvalidEntry_InvalidLengths ?kt_InvalidInstructionSet_InvalidLengths ?kt_InvalidLengths_InvalidLengths ?kt_InvalidNumber_InvalidLengths ?kt_InvalidOffset_InvalidLengths ?kt_InvalidProgram_InvalidLengths ?kt_InvalidTimes_InvalidLengths ?kt_NothingToUndo_InvalidLengths ?kt_ParseError_InvalidLengths ?kt_TooLong_InvalidLengths ?kt_TooManyStates_InvalidLengths ?kt_OverlapError_InvalidLengths ?kt_CommandError_InvalidNumber ?kt_InvalidCode_InvalidNumber ?kt_InvalidCountdowns_InvalidNumber ?kt_InvalidEntries_InvalidNumber ?kt_InvalidEntry_InvalidNumber ?kt_InvalidInstructionSet_InvalidNumber ?kt_InvalidLengths_InvalidNumber ?kt_InvalidNumber_InvalidNumber ?kt_InvalidOffset_InvalidNumber ?kt_InvalidProgram_InvalidNumber ?kt_InvalidTimes_InvalidNumber ?kt_NothingToUndo_InvalidNumber ?kt_ParseError_InvalidNumber ?kt_TooLong_InvalidNumber ?kt_TooManyStates_InvalidNumber ?kt_OverlapError_InvalidNumber ?kt_CommandError_InvalidOffset ?kt_InvalidCode_InvalidOffset ?kt_InvalidCountdowns_InvalidOffset ?kt_InvalidEntries_InvalidOffset ?kt_InvalidEntry_InvalidOffset ?kt_InvalidInstructionSet_InvalidOffset ?kt_InvalidLengths_InvalidOffset ?kt_InvalidNumber_InvalidOffset ?kt_InvalidOffset_InvalidOffset ?kt_InvalidProgram_InvalidOffset ?kt_InvalidTimes_InvalidOffset ?kt_NothingToUndo_InvalidOffset ?kt_ParseError_InvalidOffset ?kt_TooLong_InvalidOffset ?kt_TooManyStates_InvalidOffset ?kt_OverlapError_InvalidOffset ?kt_CommandError_InvalidProgram ?kt_InvalidCode_InvalidProgram ?kt_InvalidCountdowns_InvalidProgram ?kt_InvalidEntries_InvalidProgram ?kt_InvalidEntry_InvalidProgram ?kt_InvalidInstructionSet_InvalidProgram ?kt_InvalidLengths_InvalidProgram ?kt_InvalidNumber_InvalidProgram ?kt_InvalidOffset_InvalidProgram ?kt_InvalidProgram_InvalidProgram ?kt_InvalidTimes_InvalidProgram ?kt_NothingToUndo_InvalidProgram ?kt_ParseError_InvalidProgram ?kt_TooLong_InvalidProgram ?kt_TooManyStates_InvalidProgram ?kt_OverlapError_InvalidProgram ?kt_CommandError_InvalidTimes ?kt_InvalidCode_InvalidTimes ?kt_InvalidCountdowns_InvalidTimes ?kt_InvalidEntries_InvalidTimes ?kt_InvalidEntry_InvalidTimes ?kt_InvalidInstructionSet_InvalidTimes ?kt_InvalidLengths_InvalidTimes ?kt_InvalidNumber_InvalidTimes ?kt_InvalidOffset_InvalidTimes ?kt_InvalidProgram_InvalidTimes ?kt_InvalidTimes_InvalidTimes ?kt_NothingToUndo_InvalidTimes ?kt_ParseError_InvalidTimes ?kt_TooLong_InvalidTimes ?kt_TooManyStates_InvalidTimes ?kt_OverlapError_InvalidTimes ?kt_CommandError_NothingToUndo ?kt_InvalidCode_NothingToUndo ?kt_InvalidCountdowns_NothingToUndo ?kt_InvalidEntries_NothingToUndo ?kt_InvalidEntry_NothingToUndo ?kt_InvalidInstructionSet_NothingToUndo ?kt_InvalidLengths_NothingToUndo ?kt_InvalidNumber_NothingToUndo ?kt_InvalidOffset_NothingToUndo ?kt_InvalidProgram_NothingToUndo ?kt_InvalidTimes_NothingToUndo ?kt_NothingToUndo_NothingToUndo ?kt_ParseError_NothingToUndo ?kt_TooLong_NothingToUndo ?kt_TooManyStates_NothingToUndo ?kt_OverlapError_NothingToUndo ?kt_CommandError_OverlapError ?kt_InvalidCode_OverlapError ?kt_InvalidCountdowns_OverlapError ?kt_InvalidEntries_OverlapError ?kt_InvalidEntry_OverlapError ?kt_InvalidInstructionSet_OverlapError ?kt_InvalidLengths_OverlapError ?kt_InvalidNumber_OverlapError ?kt_InvalidOffset_OverlapError ?kt_InvalidProgram_OverlapError ?kt_InvalidTimes_OverlapError ?kt_NothingToUndo_OverlapError ?kt_ParseError_OverlapError ?kt_TooLong_OverlapError ?kt_TooManyStates_OverlapError ?kt_OverlapError_OverlapError ?kt_CommandError_ParseError ?kt_InvalidCode_ParseError ?kt_InvalidCountdowns_ParseError ?kt_InvalidEntries_ParseError ?kt_InvalidEntry_ParseError ?kt_InvalidInstructionSet_ParseError ?kt_InvalidLengths_ParseError ?kt_InvalidNumber_ParseError ?kt_InvalidOffset_ParseError ?kt_InvalidProgram_ParseError ?kt_InvalidTimes_ParseError ?kt_NothingToUndo_ParseError ?kt_ParseError_ParseError ?kt_TooLong_ParseError ?kt_TooManyStates_ParseError ?kt_OverlapError_ParseError ?kt_CommandError_TooLong ?kt_InvalidCode_TooLong ?kt_InvalidCountdowns_TooLong ?kt_InvalidEntries_TooLong ?kt_InvalidEntry_TooLong ?kt_InvalidInstructionSet_TooLong ?kt_InvalidLengths_TooLong ?kt_InvalidNumber_TooLong ?kt_InvalidOffset_TooLong ?kt_InvalidProgram_TooLong ?kt_InvalidTimes_TooLong ?kt_NothingToUndo_TooLong ?kt_ParseError_TooLong ?kt_TooLong_TooLong ?kt_TooManyStates_TooLong ?kt_OverlapError_TooLong ?kt_CommandError_TooManyStates ?kt_InvalidCode_TooManyStates ?kt_InvalidCountdowns_TooManyStates ?kt_InvalidEntries_TooManyStates ?kt_InvalidEntry_TooManyStates ?kt_InvalidInstructionSet_TooManyStates ?kt_InvalidLengths_TooManyStates ?kt_InvalidNumber_TooManyStates ?kt_InvalidOffset_TooManyStates ?kt_InvalidProgram_TooManyStates ?kt_InvalidTimes_TooManyStates ?kt_NothingToUndo_TooManyStates ?kt_ParseError_TooManyStates ?kt_TooLong_TooManyStates ?kt_TooManyStates_TooManyStates ?kt_OverlapError_TooManyStates ?b_ValueError ?kt_CommandError_ValueError ?kt_InvalidCode_ValueError ?kt_InvalidCountdowns_ValueError ?kt_InvalidEntries_ValueError ?kt_InvalidEntry_ValueError ?kt_InvalidInstructionSet_ValueError ?kt_InvalidLengths_ValueError ?kt_InvalidNumber_ValueError ?kt_InvalidOffset_ValueError ?kt_InvalidProgram_ValueError ?kt_InvalidTimes_ValueError ?kt_NothingToUndo_ValueError ?kt_ParseError_ValueError ?kt_TooLong_ValueError ?kt_TooManyStates_ValueError ?kt_OverlapError_ValueError ?a0 ?l0 ?c0 ?k0 ?a1 ?l1 ?c1 ?k1 ?a2 ?l2 ?c2 ?k2 ?a3 ?l3 ?c3 ?k3 ?a4 ?l4 ?c4 ?k4 ?b_len ?b_abs ?b_int ?b_bool ?b_str ?b_tuple ?b_list ?b_dict ?b_set ?b_range ?b_zip ?b_enumerate ?b_all ?b_any ?b_sum ?b_min ?b_max ?b_sorted ?b_repr ?b_isinstance
    (case gCCommandError => k_is)
    (case oeCommandError => k_is)
    (case vEeCommandError => first | k_is | rfl | decide)
    (case saeCommandError => k_is)
    (case xbeCommandError => k_is)
    (case xteCommandError => k_is)
    (case xkeCommandError => k_is)
    (case xgeCommandError => k_is)
    (case xGeCommandError => k_is)
    (case xceCommandError => k_is)
    (case xmeCommandError => k_is)
    (case xdeCommandError => k_is)
    (case xieCommandError => k_is)
    (case nfeCommandErrorcount => k_is)
    (case nfeCommandErrorfield => k_is)
    (case nfeCommandErrorline => k_is)
    (case nfeCommandErrorsize => k_is)
    (case nfeCommandErrorvalue => k_is)
    (case aeCommandError => k_is)
    (case teCommandError => k_is)
    (case leCommandError => k_is)
    (case ceCommandError => k_is)
    (case keCommandError => k_is)
    (case gCInvalidCode => k_is)
    (case oeInvalidCode => k_is)
    (case vEeInvalidCode => first | k_is | rfl | decide)
    (case saeInvalidCode => k_is)
    (case xbeInvalidCode => k_is)
    (case xteInvalidCode => k_is)
    (case xkeInvalidCode => k_is)
    (case xgeInvalidCode => k_is)
    (case xGeInvalidCode => k_is)
    (case xceInvalidCode => k_is)
    (case xmeInvalidCode => k_is)
    (case xdeInvalidCode => k_is)
    (case xieInvalidCode => k_is)
    (case nfeInvalidCodecount => k_is)
    (case nfeInvalidCodefield => k_is)
    (case nfeInvalidCodeline => k_is)
    (case nfeInvalidCodesize => k_is)
    (case nfeInvalidCodevalue => k_is)
    (case aeInvalidCode => k_is)
    (case teInvalidCode => k_is)
    (case leInvalidCode => k_is)
    (case ceInvalidCode => k_is)
    (case keInvalidCode => k_is)
    (case gCInvalidCountdowns => k_is)
    (case oeInvalidCountdowns => k_is)
    (case vEeInvalidCountdowns => first | k_is | rfl | decide)
    (case saeInvalidCountdowns => k_is)
    (case xbeInvalidCountdowns => k_is)
    (case xteInvalidCountdowns => k_is)
    (case xkeInvalidCountdowns => k_is)
    (case xgeInvalidCountdowns => k_is)
    (case xGeInvalidCountdowns => k_is)
    (case xceInvalidCountdowns => k_is)
    (case xmeInvalidCountdowns => k_is)
    (case xdeInvalidCountdowns => k_is)
    (case xieInvalidCountdowns => k_is)
    (case nfeInvalidCountdownscount => k_is)
    (case nfeInvalidCountdownsfield => k_is)
    (case nfeInvalidCountdownsline => k_is)
    (case nfeInvalidCountdownssize => k_is)
    (case nfeInvalidCountdownsvalue => k_is)
    (case aeInvalidCountdowns => k_is)
    (case teInvalidCountdowns => k_is)
    (case leInvalidCountdowns => k_is)
    (case ceInvalidCountdowns => k_is)
    (case keInvalidCountdowns => k_is)
    (case gCInvalidEntries => k_is)
    (case oeInvalidEntries => k_is)
    (case vEeInvalidEntries => first | k_is | rfl | decide)
    (case saeInvalidEntries => k_is)
    (case xbeInvalidEntries => k_is)
    (case xteInvalidEntries => k_is)
    (case xkeInvalidEntries => k_is)
    (case xgeInvalidEntries => k_is)
    (case xGeInvalidEntries => k_is)
    (case xceInvalidEntries => k_is)
    (case xmeInvalidEntries => k_is)
    (case xdeInvalidEntries => k_is)
    (case xieInvalidEntries => k_is)
    (case nfeInvalidEntriescount => k_is)
    (case nfeInvalidEntriesfield => k_is)
    (case nfeInvalidEntriesline => k_is)
    (case nfeInvalidEntriessize => k_is)
    (case nfeInvalidEntriesvalue => k_is)
    (case aeInvalidEntries => k_is)
    (case teInvalidEntries => k_is)
    (case leInvalidEntries => k_is)
    (case ceInvalidEntries => k_is)
    (case keInvalidEntries => k_is)
    (case gCInvalidEntry => k_is)
    (case oeInvalidEntry => k_is)
    (case vEeInvalidEntry => first | k_is | rfl | decide)
    (case saeInvalidEntry => k_is)
    (case xbeInvalidEntry => k_is)
    (case xteInvalidEntry => k_is)
    (case xkeInvalidEntry => k_is)
    (case xgeInvalidEntry => k_is)
    (case xGeInvalidEntry => k_is)
    (case xceInvalidEntry => k_is)
    (case xmeInvalidEntry => k_is)
    (case xdeInvalidEntry => k_is)
    (case xieInvalidEntry => k_is)
    (case nfeInvalidEntrycount => k_is)
    (case nfeInvalidEntryfield => k_is)
    (case nfeInvalidEntryline => k_is)
    (case nfeInvalidEntrysize => k_is)
    (case nfeInvalidEntryvalue => k_is)
    (case aeInvalidEntry => k_is)
    (case teInvalidEntry => k_is)
    (case leInvalidEntry => k_is)
    (case ceInvalidEntry => k_is)
    (case keInvalidEntry => k_is)
    (case gCInvalidInstructionSet => k_is)
    (case oeInvalidInstructionSet => k_is)
    (case vEeInvalidInstructionSet => first | k_is | rfl | decide)
    (case saeInvalidInstructionSet => k_is)
    (case xbeInvalidInstructionSet => k_is)
    (case xteInvalidInstructionSet => k_is)
    (case xkeInvalidInstructionSet => k_is)
    (case xgeInvalidInstructionSet => k_is)
    (case xGeInvalidInstructionSet => k_is)
    (case xceInvalidInstructionSet => k_is)
    (case xmeInvalidInstructionSet => k_is)
    (case xdeInvalidInstructionSet => k_is)
    (case xieInvalidInstructionSet => k_is)
    (case nfeInvalidInstructionSetcount => k_is)
    (case nfeInvalidInstructionSetfield => k_is)
    (case nfeInvalidInstructionSetline => k_is)
    (case nfeInvalidInstructionSetsize => k_is)
    (case nfeInvalidInstructionSetvalue => k_is)
    (case aeInvalidInstructionSet => k_is)
    (case teInvalidInstructionSet => k_is)
    (case leInvalidInstructionSet => k_is)
    (case ceInvalidInstructionSet => k_is)
    (case keInvalidInstructionSet => k_is)
    (case gCInvalidLengths => k_is)
    (case oeInvalidLengths => k_is)
    (case vEeInvalidLengths => first | k_is | rfl | decide)
    (case saeInvalidLengths => k_is)
    (case xbeInvalidLengths => k_is)
    (case xteInvalidLengths => k_is)
    (case xkeInvalidLengths => k_is)
    (case xgeInvalidLengths => k_is)
    (case xGeInvalidLengths => k_is)
    (case xceInvalidLengths => k_is)
    (case xmeInvalidLengths => k_is)
    (case xdeInvalidLengths => k_is)
    (case xieInvalidLengths => k_is)
    (case nfeInvalidLengthscount => k_is)
    (case nfeInvalidLengthsfield => k_is)
    (case nfeInvalidLengthsline => k_is)
    (case nfeInvalidLengthssize => k_is)
    (case nfeInvalidLengthsvalue => k_is)
    (case aeInvalidLengths => k_is)
    (case teInvalidLengths => k_is)
    (case leInvalidLengths => k_is)
    (case ceInvalidLengths => k_is)
    (case keInvalidLengths => k_is)
    (case gCInvalidNumber => k_is)
    (case oeInvalidNumber => k_is)
    (case vEeInvalidNumber => first | k_is | rfl | decide)
    (case saeInvalidNumber => k_is)
    (case xbeInvalidNumber => k_is)
    (case xteInvalidNumber => k_is)
    (case xkeInvalidNumber => k_is)
    (case xgeInvalidNumber => k_is)
    (case xGeInvalidNumber => k_is)
    (case xceInvalidNumber => k_is)
    (case xmeInvalidNumber => k_is)
    (case xdeInvalidNumber => k_is)
    (case xieInvalidNumber => k_is)
    (case nfeInvalidNumbercount => k_is)
    (case nfeInvalidNumberfield => k_is)
    (case nfeInvalidNumberline => k_is)
    (case nfeInvalidNumbersize => k_is)
    (case nfeInvalidNumbervalue => k_is)
    (case aeInvalidNumber => k_is)
    (case teInvalidNumber => k_is)
    (case leInvalidNumber => k_is)
    (case ceInvalidNumber => k_is)
    (case keInvalidNumber => k_is)
    (case gCInvalidOffset => k_is)
    (case oeInvalidOffset => k_is)
    (case vEeInvalidOffset => first | k_is | rfl | decide)
    (case saeInvalidOffset => k_is)
    (case xbeInvalidOffset => k_is)
    (case xteInvalidOffset => k_is)
    (case xkeInvalidOffset => k_is)
    (case xgeInvalidOffset => k_is)
    (case xGeInvalidOffset => k_is)
    (case xceInvalidOffset => k_is)
    (case xmeInvalidOffset => k_is)
    (case xdeInvalidOffset => k_is)
    (case xieInvalidOffset => k_is)
    (case nfeInvalidOffsetcount => k_is)
    (case nfeInvalidOffsetfield => k_is)
    (case nfeInvalidOffsetline => k_is)
    (case nfeInvalidOffsetsize => k_is)
    (case nfeInvalidOffsetvalue => k_is)
    (case aeInvalidOffset => k_is)
    (case teInvalidOffset => k_is)
    (case leInvalidOffset => k_is)
    (case ceInvalidOffset => k_is)
    (case keInvalidOffset => k_is)
    (case gCInvalidProgram => k_is)
    (case oeInvalidProgram => k_is)
    (case vEeInvalidProgram => first | k_is | rfl | decide)
    (case saeInvalidProgram => k_is)
    (case xbeInvalidProgram => k_is)
    (case xteInvalidProgram => k_is)
    (case xkeInvalidProgram => k_is)
    (case xgeInvalidProgram => k_is)
    (case xGeInvalidProgram => k_is)
    (case xceInvalidProgram => k_is)
    (case xmeInvalidProgram => k_is)
    (case xdeInvalidProgram => k_is)
    (case xieInvalidProgram => k_is)
    (case nfeInvalidProgramcount => k_is)
    (case nfeInvalidProgramfield => k_is)
    (case nfeInvalidProgramline => k_is)
    (case nfeInvalidProgramsize => k_is)
    (case nfeInvalidProgramvalue => k_is)
    (case aeInvalidProgram => k_is)
    (case teInvalidProgram => k_is)
    (case leInvalidProgram => k_is)
    (case ceInvalidProgram => k_is)
    (case keInvalidProgram => k_is)
    (case gCInvalidTimes => k_is)
    (case oeInvalidTimes => k_is)
    (case vEeInvalidTimes => first | k_is | rfl | decide)
    (case saeInvalidTimes => k_is)
    (case xbeInvalidTimes => k_is)
    (case xteInvalidTimes => k_is)
    (case xkeInvalidTimes => k_is)
    (case xgeInvalidTimes => k_is)
    (case xGeInvalidTimes => k_is)
    (case xceInvalidTimes => k_is)
    (case xmeInvalidTimes => k_is)
    (case xdeInvalidTimes => k_is)
    (case xieInvalidTimes => k_is)
    (case nfeInvalidTimescount => k_is)
    (case nfeInvalidTimesfield => k_is)
    (case nfeInvalidTimesline => k_is)
    (case nfeInvalidTimessize => k_is)
    (case nfeInvalidTimesvalue => k_is)
    (case aeInvalidTimes => k_is)
    (case teInvalidTimes => k_is)
    (case leInvalidTimes => k_is)
    (case ceInvalidTimes => k_is)
    (case keInvalidTimes => k_is)
    (case gCNothingToUndo => k_is)
    (case oeNothingToUndo => k_is)
    (case vEeNothingToUndo => first | k_is | rfl | decide)
    (case saeNothingToUndo => k_is)
    (case xbeNothingToUndo => k_is)
    (case xteNothingToUndo => k_is)
    (case xkeNothingToUndo => k_is)
    (case xgeNothingToUndo => k_is)
    (case xGeNothingToUndo => k_is)
    (case xceNothingToUndo => k_is)
    (case xmeNothingToUndo => k_is)
    (case xdeNothingToUndo => k_is)
    (case xieNothingToUndo => k_is)
    (case nfeNothingToUndocount => k_is)
    (case nfeNothingToUndofield => k_is)
    (case nfeNothingToUndoline => k_is)
    (case nfeNothingToUndosize => k_is)
    (case nfeNothingToUndovalue => k_is)
    (case xneNothingToUndo => k_exc)
    (case gCParseError => k_is)
    (case oeParseError => k_is)
    (case vEeParseError => first | k_is | rfl | decide)
    (case saeParseError => k_is)
    (case xbeParseError => k_is)
    (case xteParseError => k_is)
    (case xkeParseError => k_is)
    (case xgeParseError => k_is)
    (case xGeParseError => k_is)
    (case xceParseError => k_is)
    (case xmeParseError => k_is)
    (case xdeParseError => k_is)
    (case xieParseError => k_is)
    (case nfeParseErrorcount => k_is)
    (case nfeParseErrorfield => k_is)
    (case nfeParseErrorline => k_is)
    (case nfeParseErrorsize => k_is)
    (case nfeParseErrorvalue => k_is)
    (case aeParseError => k_is)
    (case teParseError => k_is)
    (case leParseError => k_is)
    (case ceParseError => k_is)
    (case keParseError => k_is)
    (case gCTooLong => k_is)
    (case oeTooLong => k_is)
    (case vEeTooLong => first | k_is | rfl | decide)
    (case saeTooLong => k_is)
    (case xbeTooLong => k_is)
    (case xteTooLong => k_is)
    (case xkeTooLong => k_is)
    (case xgeTooLong => k_is)
    (case xGeTooLong => k_is)
    (case xceTooLong => k_is)
    (case xmeTooLong => k_is)
    (case xdeTooLong => k_is)
    (case xieTooLong => k_is)
    (case nfeTooLongcount => k_is)
    (case nfeTooLongfield => k_is)
    (case nfeTooLongline => k_is)
    (case nfeTooLongsize => k_is)
    (case nfeTooLongvalue => k_is)
    (case aeTooLong => k_is)
    (case teTooLong => k_is)
    (case leTooLong => k_is)
    (case ceTooLong => k_is)
    (case keTooLong => k_is)
    (case gCTooManyStates => k_is)
    (case oeTooManyStates => k_is)
    (case vEeTooManyStates => first | k_is | rfl | decide)
    (case saeTooManyStates => k_is)
    (case xbeTooManyStates => k_is)
    (case xteTooManyStates => k_is)
    (case xkeTooManyStates => k_is)
    (case xgeTooManyStates => k_is)
    (case xGeTooManyStates => k_is)
    (case xceTooManyStates => k_is)
    (case xmeTooManyStates => k_is)
    (case xdeTooManyStates => k_is)
    (case xieTooManyStates => k_is)
    (case nfeTooManyStatescount => k_is)
    (case nfeTooManyStatesfield => k_is)
    (case nfeTooManyStatesline => k_is)
    (case nfeTooManyStatessize => k_is)
    (case nfeTooManyStatesvalue => k_is)
    (case aeTooManyStates => k_is)
    (case teTooManyStates => k_is)
    (case leTooManyStates => k_is)
    (case ceTooManyStates => k_is)
    (case keTooManyStates => k_is)
    (case gCOverlapError => k_is)
    (case oeOverlapError => k_is)
    (case vEeOverlapError => first | k_is | rfl | decide)
    (case saeOverlapError => k_is)
    (case xbeOverlapError => k_is)
    (case xteOverlapError => k_is)
    (case xkeOverlapError => k_is)
    (case xgeOverlapError => k_is)
    (case xGeOverlapError => k_is)
    (case xceOverlapError => k_is)
    (case xmeOverlapError => k_is)
    (case xdeOverlapError => k_is)
    (case xieOverlapError => k_is)
    (case nfeOverlapErrorcount => k_is)
    (case nfeOverlapErrorfield => k_is)
    (case nfeOverlapErrorline => k_is)
    (case nfeOverlapErrorsize => k_is)
    (case nfeOverlapErrorvalue => k_is)
    (case xneOverlapError => k_exc)
    (case xcg => k_is)
    (case xct => k_is)
    (case kt_CommandError_CommandError => first | k_is | rfl | decide)
    (case kt_InvalidCode_CommandError => first | k_is | rfl | decide)
    (case kt_InvalidCountdowns_CommandError => first | k_is | rfl | decide)
    (case kt_InvalidEntries_CommandError => first | k_is | rfl | decide)
    (case kt_InvalidEntry_CommandError => first | k_is | rfl | decide)
    (case kt_InvalidInstructionSet_CommandError => first | k_is | rfl | decide)
    (case kt_InvalidLengths_CommandError => first | k_is | rfl | decide)
    (case kt_InvalidNumber_CommandError => first | k_is | rfl | decide)
    (case kt_InvalidOffset_CommandError => first | k_is | rfl | decide)
    (case kt_InvalidProgram_CommandError => first | k_is | rfl | decide)
    (case kt_InvalidTimes_CommandError => first | k_is | rfl | decide)
    (case kt_NothingToUndo_CommandError => first | k_is | rfl | decide)
    (case kt_ParseError_CommandError => first | k_is | rfl | decide)
    (case kt_TooLong_CommandError => first | k_is | rfl | decide)
    (case kt_TooManyStates_CommandError => first | k_is | rfl | decide)
    (case kt_OverlapError_CommandError => first | k_is | rfl | decide)
    (case kt_CommandError_InvalidCode => first | k_is | rfl | decide)
    (case kt_InvalidCode_InvalidCode => first | k_is | rfl | decide)
    (case kt_InvalidCountdowns_InvalidCode => first | k_is | rfl | decide)
    (case kt_InvalidEntries_InvalidCode => first | k_is | rfl | decide)
    (case kt_InvalidEntry_InvalidCode => first | k_is | rfl | decide)
    (case kt_InvalidInstructionSet_InvalidCode => first | k_is | rfl | decide)
    (case kt_InvalidLengths_InvalidCode => first | k_is | rfl | decide)
    (case kt_InvalidNumber_InvalidCode => first | k_is | rfl | decide)
    (case kt_InvalidOffset_InvalidCode => first | k_is | rfl | decide)
    (case kt_InvalidProgram_InvalidCode => first | k_is | rfl | decide)
    (case kt_InvalidTimes_InvalidCode => first | k_is | rfl | decide)
    (case kt_NothingToUndo_InvalidCode => first | k_is | rfl | decide)
    (case kt_ParseError_InvalidCode => first | k_is | rfl | decide)
    (case kt_TooLong_InvalidCode => first | k_is | rfl | decide)
    (case kt_TooManyStates_InvalidCode => first | k_is | rfl | decide)
    (case kt_OverlapError_InvalidCode => first | k_is | rfl | decide)
    (case kt_CommandError_InvalidCountdowns => first | k_is | rfl | decide)
    (case kt_InvalidCode_InvalidCountdowns => first | k_is | rfl | decide)
    (case kt_InvalidCountdowns_InvalidCountdowns => first | k_is | rfl | decide)
    (case kt_InvalidEntries_InvalidCountdowns => first | k_is | rfl | decide)
    (case kt_InvalidEntry_InvalidCountdowns => first | k_is | rfl | decide)
    (case kt_InvalidInstructionSet_InvalidCountdowns => first | k_is | rfl | decide)
    (case kt_InvalidLengths_InvalidCountdowns => first | k_is | rfl | decide)
    (case kt_InvalidNumber_InvalidCountdowns => first | k_is | rfl | decide)
    (case kt_InvalidOffset_InvalidCountdowns => first | k_is | rfl | decide)
    (case kt_InvalidProgram_InvalidCountdowns => first | k_is | rfl | decide)
    (case kt_InvalidTimes_InvalidCountdowns => first | k_is | rfl | decide)
    (case kt_NothingToUndo_InvalidCountdowns => first | k_is | rfl | decide)
    (case kt_ParseError_InvalidCountdowns => first | k_is | rfl | decide)
    (case kt_TooLong_InvalidCountdowns => first | k_is | rfl | decide)
    (case kt_TooManyStates_InvalidCountdowns => first | k_is | rfl | decide)
    (case kt_OverlapError_InvalidCountdowns => first | k_is | rfl | decide)
    (case kt_CommandError_InvalidEntries => first | k_is | rfl | decide)
    (case kt_InvalidCode_InvalidEntries => first | k_is | rfl | decide)
    (case kt_InvalidCountdowns_InvalidEntries => first | k_is | rfl | decide)
    (case kt_InvalidEntries_InvalidEntries => first | k_is | rfl | decide)
    (case kt_InvalidEntry_InvalidEntries => first | k_is | rfl | decide)
    (case kt_InvalidInstructionSet_InvalidEntries => first | k_is | rfl | decide)
    (case kt_InvalidLengths_InvalidEntries => first | k_is | rfl | decide)
    (case kt_InvalidNumber_InvalidEntries => first | k_is | rfl | decide)
    (case kt_InvalidOffset_InvalidEntries => first | k_is | rfl | decide)
    (case kt_InvalidProgram_InvalidEntries => first | k_is | rfl | decide)
    (case kt_InvalidTimes_InvalidEntries => first | k_is | rfl | decide)
    (case kt_NothingToUndo_InvalidEntries => first | k_is | rfl | decide)
    (case kt_ParseError_InvalidEntries => first | k_is | rfl | decide)
    (case kt_TooLong_InvalidEntries => first | k_is | rfl | decide)
    (case kt_TooManyStates_InvalidEntries => first | k_is | rfl | decide)
    (case kt_OverlapError_InvalidEntries => first | k_is | rfl | decide)
    (case kt_CommandError_InvalidEntry => first | k_is | rfl | decide)
    (case kt_InvalidCode_InvalidEntry => first | k_is | rfl | decide)
    (case kt_InvalidCountdowns_InvalidEntry => first | k_is | rfl | decide)
    (case kt_InvalidEntries_InvalidEntry => first | k_is | rfl | decide)
    (case kt_InvalidEntry_InvalidEntry => first | k_is | rfl | decide)
    (case kt_InvalidInstructionSet_InvalidEntry => first | k_is | rfl | decide)
    (case kt_InvalidLengths_InvalidEntry => first | k_is | rfl | decide)
    (case kt_InvalidNumber_InvalidEntry => first | k_is | rfl | decide)
    (case kt_InvalidOffset_InvalidEntry => first | k_is | rfl | decide)
    (case kt_InvalidProgram_InvalidEntry => first | k_is | rfl | decide)
    (case kt_InvalidTimes_InvalidEntry => first | k_is | rfl | decide)
    (case kt_NothingToUndo_InvalidEntry => first | k_is | rfl | decide)
    (case kt_ParseError_InvalidEntry => first | k_is | rfl | decide)
    (case kt_TooLong_InvalidEntry => first | k_is | rfl | decide)
    (case kt_TooManyStates_InvalidEntry => first | k_is | rfl | decide)
    (case kt_OverlapError_InvalidEntry => first | k_is | rfl | decide)
    (case kt_CommandError_InvalidInstructionSet => first | k_is | rfl | decide)
    (case kt_InvalidCode_InvalidInstructionSet => first | k_is | rfl | decide)
    (case kt_InvalidCountdowns_InvalidInstructionSet => first | k_is | rfl | decide)
    (case kt_InvalidEntries_InvalidInstructionSet => first | k_is | rfl | decide)
    (case kt_InvalidEntry_InvalidInstructionSet => first | k_is | rfl | decide)
    (case kt_InvalidInstructionSet_InvalidInstructionSet => first | k_is | rfl | decide)
    (case kt_InvalidLengths_InvalidInstructionSet => first | k_is | rfl | decide)
    (case kt_InvalidNumber_InvalidInstructionSet => first | k_is | rfl | decide)
    (case kt_InvalidOffset_InvalidInstructionSet => first | k_is | rfl | decide)
    (case kt_InvalidProgram_InvalidInstructionSet => first | k_is | rfl | decide)
    (case kt_InvalidTimes_InvalidInstructionSet => first | k_is | rfl | decide)
    (case kt_NothingToUndo_InvalidInstructionSet => first | k_is | rfl | decide)
    (case kt_ParseError_InvalidInstructionSet => first | k_is | rfl | decide)
    (case kt_TooLong_InvalidInstructionSet => first | k_is | rfl | decide)
    (case kt_TooManyStates_InvalidInstructionSet => first | k_is | rfl | decide)
    (case kt_OverlapError_InvalidInstructionSet => first | k_is | rfl | decide)
    (case kt_CommandError_InvalidLengths => first | k_is | rfl | decide)
    (case kt_InvalidCode_InvalidLengths => first | k_is | rfl | decide)
    (case kt_InvalidCountdowns_InvalidLengths => first | k_is | rfl | decide)
    (case kt_InvalidEntries_InvalidLengths => first | k_is | rfl | decide)
    (case kt_InvalidEntry_InvalidLengths => first | k_is | rfl | decide)
    (case kt_InvalidInstructionSet_InvalidLengths => first | k_is | rfl | decide)
    (case kt_InvalidLengths_InvalidLengths => first | k_is | rfl | decide)
    (case kt_InvalidNumber_InvalidLengths => first | k_is | rfl | decide)
    (case kt_InvalidOffset_InvalidLengths => first | k_is | rfl | decide)
    (case kt_InvalidProgram_InvalidLengths => first | k_is | rfl | decide)
    (case kt_InvalidTimes_InvalidLengths => first | k_is | rfl | decide)
    (case kt_NothingToUndo_InvalidLengths => first | k_is | rfl | decide)
    (case kt_ParseError_InvalidLengths => first | k_is | rfl | decide)
    (case kt_TooLong_InvalidLengths => first | k_is | rfl | decide)
    (case kt_TooManyStates_InvalidLengths => first | k_is | rfl | decide)
    (case kt_OverlapError_InvalidLengths => first | k_is | rfl | decide)
    (case kt_CommandError_InvalidNumber => first | k_is | rfl | decide)
    (case kt_InvalidCode_InvalidNumber => first | k_is | rfl | decide)
    (case kt_InvalidCountdowns_InvalidNumber => first | k_is | rfl | decide)
    (case kt_InvalidEntries_InvalidNumber => first | k_is | rfl | decide)
    (case kt_InvalidEntry_InvalidNumber => first | k_is | rfl | decide)
    (case kt_InvalidInstructionSet_InvalidNumber => first | k_is | rfl | decide)
    (case kt_InvalidLengths_InvalidNumber => first | k_is | rfl | decide)
    (case kt_InvalidNumber_InvalidNumber => first | k_is | rfl | decide)
    (case kt_InvalidOffset_InvalidNumber => first | k_is | rfl | decide)
    (case kt_InvalidProgram_InvalidNumber => first | k_is | rfl | decide)
    (case kt_InvalidTimes_InvalidNumber => first | k_is | rfl | decide)
    (case kt_NothingToUndo_InvalidNumber => first | k_is | rfl | decide)
    (case kt_ParseError_InvalidNumber => first | k_is | rfl | decide)
    (case kt_TooLong_InvalidNumber => first | k_is | rfl | decide)
    (case kt_TooManyStates_InvalidNumber => first | k_is | rfl | decide)
    (case kt_OverlapError_InvalidNumber => first | k_is | rfl | decide)
    (case kt_CommandError_InvalidOffset => first | k_is | rfl | decide)
    (case kt_InvalidCode_InvalidOffset => first | k_is | rfl | decide)
    (case kt_InvalidCountdowns_InvalidOffset => first | k_is | rfl | decide)
    (case kt_InvalidEntries_InvalidOffset => first | k_is | rfl | decide)
    (case kt_InvalidEntry_InvalidOffset => first | k_is | rfl | decide)
    (case kt_InvalidInstructionSet_InvalidOffset => first | k_is | rfl | decide)
    (case kt_InvalidLengths_InvalidOffset => first | k_is | rfl | decide)
    (case kt_InvalidNumber_InvalidOffset => first | k_is | rfl | decide)
    (case kt_InvalidOffset_InvalidOffset => first | k_is | rfl | decide)
    (case kt_InvalidProgram_InvalidOffset => first | k_is | rfl | decide)
    (case kt_InvalidTimes_InvalidOffset => first | k_is | rfl | decide)
    (case kt_NothingToUndo_InvalidOffset => first | k_is | rfl | decide)
    (case kt_ParseError_InvalidOffset => first | k_is | rfl | decide)
    (case kt_TooLong_InvalidOffset => first | k_is | rfl | decide)
    (case kt_TooManyStates_InvalidOffset => first | k_is | rfl | decide)
    (case kt_OverlapError_InvalidOffset => first | k_is | rfl | decide)
    (case kt_CommandError_InvalidProgram => first | k_is | rfl | decide)
    (case kt_InvalidCode_InvalidProgram => first | k_is | rfl | decide)
    (case kt_InvalidCountdowns_InvalidProgram => first | k_is | rfl | decide)
    (case kt_InvalidEntries_InvalidProgram => first | k_is | rfl | decide)
    (case kt_InvalidEntry_InvalidProgram => first | k_is | rfl | decide)
    (case kt_InvalidInstructionSet_InvalidProgram => first | k_is | rfl | decide)
    (case kt_InvalidLengths_InvalidProgram => first | k_is | rfl | decide)
    (case kt_InvalidNumber_InvalidProgram => first | k_is | rfl | decide)
    (case kt_InvalidOffset_InvalidProgram => first | k_is | rfl | decide)
    (case kt_InvalidProgram_InvalidProgram => first | k_is | rfl | decide)
    (case kt_InvalidTimes_InvalidProgram => first | k_is | rfl | decide)
    (case kt_NothingToUndo_InvalidProgram => first | k_is | rfl | decide)
    (case kt_ParseError_InvalidProgram => first | k_is | rfl | decide)
    (case kt_TooLong_InvalidProgram => first | k_is | rfl | decide)
    (case kt_TooManyStates_InvalidProgram => first | k_is | rfl | decide)
    (case kt_OverlapError_InvalidProgram => first | k_is | rfl | decide)
    (case kt_CommandError_InvalidTimes => first | k_is | rfl | decide)
    (case kt_InvalidCode_InvalidTimes => first | k_is | rfl | decide)
    (case kt_InvalidCountdowns_InvalidTimes => first | k_is | rfl | decide)
    (case kt_InvalidEntries_InvalidTimes => first | k_is | rfl | decide)
    (case kt_InvalidEntry_InvalidTimes => first | k_is | rfl | decide)
    (case kt_InvalidInstructionSet_InvalidTimes => first | k_is | rfl | decide)
    (case kt_InvalidLengths_InvalidTimes => first | k_is | rfl | decide)
    (case kt_InvalidNumber_InvalidTimes => first | k_is | rfl | decide)
    (case kt_InvalidOffset_InvalidTimes => first | k_is | rfl | decide)
    (case kt_InvalidProgram_InvalidTimes => first | k_is | rfl | decide)
    (case kt_InvalidTimes_InvalidTimes => first | k_is | rfl | decide)
    (case kt_NothingToUndo_InvalidTimes => first | k_is | rfl | decide)
    (case kt_ParseError_InvalidTimes => first | k_is | rfl | decide)
    (case kt_TooLong_InvalidTimes => first | k_is | rfl | decide)
    (case kt_TooManyStates_InvalidTimes => first | k_is | rfl | decide)
    (case kt_OverlapError_InvalidTimes => first | k_is | rfl | decide)
    (case kt_CommandError_NothingToUndo => first | k_is | rfl | decide)
    (case kt_InvalidCode_NothingToUndo => first | k_is | rfl | decide)
    (case kt_InvalidCountdowns_NothingToUndo => first | k_is | rfl | decide)
    (case kt_InvalidEntries_NothingToUndo => first | k_is | rfl | decide)
    (case kt_InvalidEntry_NothingToUndo => first | k_is | rfl | decide)
    (case kt_InvalidInstructionSet_NothingToUndo => first | k_is | rfl | decide)
    (case kt_InvalidLengths_NothingToUndo => first | k_is | rfl | decide)
    (case kt_InvalidNumber_NothingToUndo => first | k_is | rfl | decide)
    (case kt_InvalidOffset_NothingToUndo => first | k_is | rfl | decide)
    (case kt_InvalidProgram_NothingToUndo => first | k_is | rfl | decide)
    (case kt_InvalidTimes_NothingToUndo => first | k_is | rfl | decide)
    (case kt_NothingToUndo_NothingToUndo => first | k_is | rfl | decide)
    (case kt_ParseError_NothingToUndo => first | k_is | rfl | decide)
    (case kt_TooLong_NothingToUndo => first | k_is | rfl | decide)
    (case kt_TooManyStates_NothingToUndo => first | k_is | rfl | decide)
    (case kt_OverlapError_NothingToUndo => first | k_is | rfl | decide)
    (case kt_CommandError_OverlapError => first | k_is | rfl | decide)
    (case kt_InvalidCode_OverlapError => first | k_is | rfl | decide)
    (case kt_InvalidCountdowns_OverlapError => first | k_is | rfl | decide)
    (case kt_InvalidEntries_OverlapError => first | k_is | rfl | decide)
    (case kt_InvalidEntry_OverlapError => first | k_is | rfl | decide)
    (case kt_InvalidInstructionSet_OverlapError => first | k_is | rfl | decide)
    (case kt_InvalidLengths_OverlapError => first | k_is | rfl | decide)
    (case kt_InvalidNumber_OverlapError => first | k_is | rfl | decide)
    (case kt_InvalidOffset_OverlapError => first | k_is | rfl | decide)
    (case kt_InvalidProgram_OverlapError => first | k_is | rfl | decide)
    (case kt_InvalidTimes_OverlapError => first | k_is | rfl | decide)
    (case kt_NothingToUndo_OverlapError => first | k_is | rfl | decide)
    (case kt_ParseError_OverlapError => first | k_is | rfl | decide)
    (case kt_TooLong_OverlapError => first | k_is | rfl | decide)
    (case kt_TooManyStates_OverlapError => first | k_is | rfl | decide)
    (case kt_OverlapError_OverlapError => first | k_is | rfl | decide)
    (case kt_CommandError_ParseError => first | k_is | rfl | decide)
    (case kt_InvalidCode_ParseError => first | k_is | rfl | decide)
    (case kt_InvalidCountdowns_ParseError => first | k_is | rfl | decide)
    (case kt_InvalidEntries_ParseError => first | k_is | rfl | decide)
    (case kt_InvalidEntry_ParseError => first | k_is | rfl | decide)
    (case kt_InvalidInstructionSet_ParseError => first | k_is | rfl | decide)
    (case kt_InvalidLengths_ParseError => first | k_is | rfl | decide)
    (case kt_InvalidNumber_ParseError => first | k_is | rfl | decide)
    (case kt_InvalidOffset_ParseError => first | k_is | rfl | decide)
    (case kt_InvalidProgram_ParseError => first | k_is | rfl | decide)
    (case kt_InvalidTimes_ParseError => first | k_is | rfl | decide)
    (case kt_NothingToUndo_ParseError => first | k_is | rfl | decide)
    (case kt_ParseError_ParseError => first | k_is | rfl | decide)
    (case kt_TooLong_ParseError => first | k_is | rfl | decide)
    (case kt_TooManyStates_ParseError => first | k_is | rfl | decide)
    (case kt_OverlapError_ParseError => first | k_is | rfl | decide)
    (case kt_CommandError_TooLong => first | k_is | rfl | decide)
    (case kt_InvalidCode_TooLong => first | k_is | rfl | decide)
    (case kt_InvalidCountdowns_TooLong => first | k_is | rfl | decide)
    (case kt_InvalidEntries_TooLong => first | k_is | rfl | decide)
    (case kt_InvalidEntry_TooLong => first | k_is | rfl | decide)
    (case kt_InvalidInstructionSet_TooLong => first | k_is | rfl | decide)
    (case kt_InvalidLengths_TooLong => first | k_is | rfl | decide)
    (case kt_InvalidNumber_TooLong => first | k_is | rfl | decide)
    (case kt_InvalidOffset_TooLong => first | k_is | rfl | decide)
    (case kt_InvalidProgram_TooLong => first | k_is | rfl | decide)
    (case kt_InvalidTimes_TooLong => first | k_is | rfl | decide)
    (case kt_NothingToUndo_TooLong => first | k_is | rfl | decide)
    (case kt_ParseError_TooLong => first | k_is | rfl | decide)
    (case kt_TooLong_TooLong => first | k_is | rfl | decide)
    (case kt_TooManyStates_TooLong => first | k_is | rfl | decide)
    (case kt_OverlapError_TooLong => first | k_is | rfl | decide)
    (case kt_CommandError_TooManyStates => first | k_is | rfl | decide)
    (case kt_InvalidCode_TooManyStates => first | k_is | rfl | decide)
    (case kt_InvalidCountdowns_TooManyStates => first | k_is | rfl | decide)
    (case kt_InvalidEntries_TooManyStates => first | k_is | rfl | decide)
    (case kt_InvalidEntry_TooManyStates => first | k_is | rfl | decide)
    (case kt_InvalidInstructionSet_TooManyStates => first | k_is | rfl | decide)
    (case kt_InvalidLengths_TooManyStates => first | k_is | rfl | decide)
    (case kt_InvalidNumber_TooManyStates => first | k_is | rfl | decide)
    (case kt_InvalidOffset_TooManyStates => first | k_is | rfl | decide)
    (case kt_InvalidProgram_TooManyStates => first | k_is | rfl | decide)
    (case kt_InvalidTimes_TooManyStates => first | k_is | rfl | decide)
    (case kt_NothingToUndo_TooManyStates => first | k_is | rfl | decide)
    (case kt_ParseError_TooManyStates => first | k_is | rfl | decide)
    (case kt_TooLong_TooManyStates => first | k_is | rfl | decide)
    (case kt_TooManyStates_TooManyStates => first | k_is | rfl | decide)
    (case kt_OverlapError_TooManyStates => first | k_is | rfl | decide)
    (case b_ValueError => k_is)
    (case kt_CommandError_ValueError => first | k_is | rfl | decide)
    (case kt_InvalidCode_ValueError => first | k_is | rfl | decide)
    (case kt_InvalidCountdowns_ValueError => first | k_is | rfl | decide)
    (case kt_InvalidEntries_ValueError => first | k_is | rfl | decide)
    (case kt_InvalidEntry_ValueError => first | k_is | rfl | decide)
    (case kt_InvalidInstructionSet_ValueError => first | k_is | rfl | decide)
    (case kt_InvalidLengths_ValueError => first | k_is | rfl | decide)
    (case kt_InvalidNumber_ValueError => first | k_is | rfl | decide)
    (case kt_InvalidOffset_ValueError => first | k_is | rfl | decide)
    (case kt_InvalidProgram_ValueError => first | k_is | rfl | decide)
    (case kt_InvalidTimes_ValueError => first | k_is | rfl | decide)
    (case kt_NothingToUndo_ValueError => first | k_is | rfl | decide)
    (case kt_ParseError_ValueError => first | k_is | rfl | decide)
    (case kt_TooLong_ValueError => first | k_is | rfl | decide)
    (case kt_TooManyStates_ValueError => first | k_is | rfl | decide)
    (case kt_OverlapError_ValueError => first | k_is | rfl | decide)
    (case a0 => k_is)
    (case l0 => k_is)
    (case c0 => k_is)
    (case k0 => k_is)
    (case a1 => k_is)
    (case l1 => k_is)
    (case c1 => k_is)
    (case k1 => k_is)
    (case a2 => k_is)
    (case l2 => k_is)
    (case c2 => k_is)
    (case k2 => k_is)
    (case a3 => k_is)
    (case l3 => k_is)
    (case c3 => k_is)
    (case k3 => k_is)
    (case a4 => k_is)
    (case l4 => k_is)
    (case c4 => k_is)
    (case k4 => k_is)
    (case b_len => k_is)
    (case b_abs => k_is)
    (case b_int => k_is)
    (case b_bool => k_is)
    (case b_str => k_is)
    (case b_tuple => k_is)
    (case b_list => k_is)
    (case b_dict => k_is)
    (case b_set => k_is)
    (case b_range => k_is)
    (case b_zip => k_is)
    (case b_enumerate => k_is)
    (case b_all => k_is)
    (case b_any => k_is)
    (case b_sum => k_is)
    (case b_min => k_is)
    (case b_max => k_is)
    (case b_sorted => k_is)
    (case b_repr => k_is)
    (case b_isinstance => k_is)
#print axioms PySem.Challenge.cw_overlapcode_k20_errors_holds
