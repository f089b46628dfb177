import PyProof.Rows.All
import Wide.All
import OpenK.AllK
import Wide.FinOn
import PyProof.ReprRoads
import PyProof.CallFns
import HandS.ForMost
import HandS.Evl
import HandS.Wide
import HandS.Defaults
import HandS.IsInst
import HandS.Style
import HandS.HeadHook2
import HandS.EndBits
import HandS.Conv
import HandS.Walk
import HandS.ExcOwn
import HandS.ExcInit
import HandS.ExcField
import HandS.TryMany
import HandS.WordsExc
import KE.KStateDown
import HandS.Head0
import HandS.Head1
import HandS.Head2
import HandS.HeadHook1
import PySem.Challenge.RW_hardwraps_k42_lines_read_together
set_option Elab.async false
set_option linter.all false
set_option maxRecDepth 100000
set_option maxHeartbeats 4000000
/-! Rules that the layer lacks: wide powers, repr of data (where the guards are known), calls by keywords alone, defs that run where no guard stands. -/
namespace Hw
open PySem PySem.Spec PyProof.Rows L2

/-! ### powers -/
def CPowW (i j : Int) : Prop := 0 ≤ j ∧ (Builtin.Int.intBits i : Int) * j ≤ 2 ^ 27
theorem op_powW {X : Cx} : OpR X (binaryOp .Pow) (rI CPowW fun i j => .int (i ^ j.toNat)) :=
  opI fun _ _ _ _ _ _ _ hc q => pow_int hc.1 hc.2 q
theorem bits_le {i : Int} {n : Nat} (h : i.natAbs < 2 ^ n) (hn : 0 < n) : Builtin.Int.intBits i ≤ n := by
  unfold Builtin.Int.intBits
  split
  · omega
  · rename_i hz
    have h0 : i.natAbs ≠ 0 := by
      intro e
      apply hz
      have : i = 0 := by omega
      subst this
      rfl
    have := (Nat.log2_lt h0).mpr h
    omega
theorem cpow {i : Int} {n k : Nat} (h : i.natAbs < 2 ^ n) (hn : 0 < n) (hk : n * k ≤ 2 ^ 27) : CPowW i (k : Int) := by
  refine ⟨by omega, ?_⟩
  have h1 := bits_le h hn
  have h2 : Builtin.Int.intBits i * k ≤ n * k := Nat.mul_le_mul_right k h1
  have h3 : Builtin.Int.intBits i * k ≤ 2 ^ 27 := Nat.le_trans h2 hk
  exact_mod_cast h3

/-! ### a def, run where no guard stands -/
/-- as FnOk, for calls whose surroundings hold no guard (repr asks that) -/
structure FnG (P : Program) (w : World) (K : PySem.W.Frag) (mg : Str → Option Value)
    (base : Heap) (CX : CXT) (k : Nat) (f : Addr) (fd : FuncData) (ps : List Str) (sp : Sp) : Prop where
  len : ∀ vs H Q E, sp vs H Q E → vs.length = ps.length
  run : ∀ (A : Around) (outer : List Env) (s : Shared) (H : Hp) (args : Args)
    (us : List Value) (vs : List V) (Q : VK) (E : XK), A.guards = some [] → Room k A →
    Env0 P w K mg base A outer s H → BindsTo s fd args (ps.zip us) → Vals vs us → sp vs H Q E →
    codeAny (model P w) A (.call (.ref f) args) (CR CX outer P w H s Q E) s
section
variable {P : Program} {w : World} {K : PySem.W.Frag} {mg : Str → Option Value} {base : Heap} {CX : CXT}
variable {k : Nat} {f : Addr} {fd : FuncData} {ps : List Str} {sp : Sp}
theorem FnG.of (F : FnOk P w K mg base CX k f fd ps sp) : FnG P w K mg base CX k f fd ps sp :=
  ⟨F.len, fun A outer s H args us vs Q E _ => F.run A outer s H args us vs Q E⟩
theorem fnG_of {name qual : Str} {params : Arguments} {body : List Stmt} {scope : Scope}
    {dV kV doc pm cdv ct oc : Value} {an od : Option Addr} {osl : Array (Option Value)} {N : List Str}
    (lk : K.lookup f = some ⟨oc, od, .func (PySem.W.fnOf name qual params body scope dV kV doc pm an cdv ct), osl⟩)
    (hcd : PySem.W.codeIn K cdv qual = true) (S : FnScope N ps scope)
    (len : ∀ vs H Q E, sp vs H Q E → vs.length = ps.length)
    (hb : ∀ (A : Around) (outer : List Env) (s : Shared) (H : Hp) (vs : List V) (Q : VK) (E : XK), A.guards = some [] →
      Room k (A.deeper (envOfC qual scope s.heap.objs.size f cdv)) → sp vs H Q E →
      ∃ t, PSs (cxOf CX P w K mg base N qual scope f cdv A outer s H E) body t ∧
        t { nx := fun _ H' => Q .non H', rt := Q } (start N vs) H) :
    FnG P w K mg base CX (k + 1) f (PySem.W.fnOf name qual params body scope dV kV doc pm an cdv ct) ps sp := by
  constructor
  · exact len
  intro A outer s H args us vs Q E hga hr e0 hbi r hq
  have lv := len _ _ _ _ hq
  have kin : K.In s.heap := e0.mod.kin.keeps fun b o e => (e0.bs b o e).1
  have nolim : s.heap.NoLimit := e0.mod.nolimit.keeps fun b o e => (e0.bs b o e).1
  have kinds : ∀ y ∈ ps.zip us, scope.names.lookup y.1 = some .local ∨
      (scope.names.lookup y.1 = some .cell ∧
        ((cellsFrom (s.heap.objs.size + 1) scope.names []).lookup y.1).isSome = true) := by
    rintro ⟨n, v⟩ hy
    rcases S.par n (List.of_mem_zip hy).1 with q | q
    · exact .inl q
    · exact .inr ⟨q, PySem.W.cellsFrom_some _ _ _ (.inl q)⟩
  refine codeAny_call_function hr.depth (kin _ _ lk) rfl S.co S.gen rfl
    (PySem.W.codeRec_of kin hcd) (hbi _ _ _ _ ?_)
  refine wpAny_newFunctionEnv_cells S.kind kinds fun env he s1 x => ?_
  subst he
  refine ⟨nolim.keeps x.toInCall.keep, codeAny_func ?_⟩
  obtain ⟨t, ht, q0⟩ := hb A outer s H vs Q E hga (hr.deeper _) hq
  have I := inv_start (CX := CX) (P := P) (w := w) (K := K) (mg := mg) (base := base) (cd := cdv)
    (f := f) (qual := qual) (E := E) S hr.hd e0 lv r x
  refine wpAny_mono (ht.run [] s1 (start N vs) H _ I q0) (fun fl s' hs => ?_) fun e s' hs => hs
  cases fl with
  | ret u =>
    obtain ⟨v, σ', H', J, rv, q⟩ := hs
    exact ⟨v, H', J.os, J.bare, J.base, J.hok, rv, q⟩
  | next =>
    obtain ⟨σ', H', J, q⟩ := hs
    exact ⟨V.non, H', J.os, J.bare, J.base, J.hok, rfl, q⟩
  | brk => exact False.elim hs.choose_spec.choose_spec.2
  | cont => exact False.elim hs.choose_spec.choose_spec.2
theorem okG {x qual : Str} {params : Arguments} {body : List Stmt} {scope : Scope} {dvs : List V} {kws : List (Str × V)} {N : List Str}
    (F : FunD K x qual params body scope dvs kws f fd) (S : FnScope N ps scope)
    (len : ∀ vs H Q E, sp vs H Q E → vs.length = ps.length)
    (hb : ∀ (cdv : Value) (A : Around) (outer : List Env) (s : Shared) (H : Hp) (vs : List V) (Q : VK) (E : XK), A.guards = some [] →
      Room k (A.deeper (envOfC qual scope s.heap.objs.size f cdv)) → sp vs H Q E →
      ∃ t, PSs (cxOf CX P w K mg base N qual scope f cdv A outer s H E) body t ∧
        t { nx := fun _ H' => Q .non H', rt := Q } (start N vs) H) :
    FnG P w K mg base CX (k + 1) f fd ps sp := by
  obtain ⟨oc, od, dV, kV, doc, pm, an, cdv, ct, osl, rfl, lk, hcd, _, _⟩ := F.ex
  exact fnG_of lk hcd S len fun A outer s H vs Q E hg hr hq => hb cdv A outer s H vs Q E hg hr hq
end

/-! ### calls of such defs -/
section
variable {X : Cx} {CX : CXT} {k n : Nat} {f : Addr} {fd : FuncData} {ps ks : List Str} {sp : Sp} {dvs : List V} {ds : List Value} {E : XK}
variable {x : Str} {p pos : Pos} {e : Expr} {es : List Expr} {kws : List Keyword} {t tk : TA}
variable {g : List Value → List Value → List Value} {gV : List V → List V → List V}
theorem run_G {pins : List (Addr × Obj)} {σ : L2.St} {H : Hp} {s : Shared} {Q : VK} {us : List Value} {vs : List V}
    (hgd : X.A.guards = some []) (F : FnG X.prog X.w X.K X.mg X.base CX k f fd ps sp) (hr : Room k X.A)
    (hb : Binds X.K fd ps ds) (hd : Vals dvs ds) (hx : Passes CX X E)
    (I : Inv X pins σ H s) (r : Vals vs us) (h : sp (vs ++ dvs) H Q E) :
    wpAny (model X.prog X.w) X.A (call (.ref f) us) (EP X pins σ Q) X.xe s := by
  have rr : Vals (vs ++ dvs) (us ++ ds) := r.append hd
  have ln : (us ++ ds).length = ps.length := by
    rw [← rr.length]
    exact F.len _ _ _ _ h
  have cc := F.run X.A X.stack s H ⟨us, []⟩ (us ++ ds) (vs ++ dvs) Q E hgd hr I.env0 (hb s us I.kIn ln) rr h
  refine wpAny_call (codeAny_mono cc fun r s' hq => ?_)
  match r, hq with
  | .error e, hq => exact hx pins σ H s e s' I hq
  | .ok (.ret u), hq => exact I.after hq
  | .ok .next, hq => exact False.elim hq
  | .ok .brk, hq => exact False.elim hq
  | .ok .cont, hq => exact False.elim hq
theorem pe_callG (hgd : X.A.guards = some []) (F : FnG X.prog X.w X.K X.mg X.base CX k f fd ps sp)
    (hr : Room k X.A) (hg : Gl X x) (hm : X.mg x = some (.ref f)) (hk : PySem.W.keepIn X.K (.ref f) = true)
    (hb : Binds X.K fd ps ds) (hd : Vals dvs ds) (hx : Passes CX X E) (ha : PA X (e :: es) t)
    (hdb : (x == ("__debug__" : Str)) = false := by decide)
    (he : starEach (e :: es) X.env = (false, eval e X.env) :: starEach es X.env := by rfl)
    (hpl : (backTo pos (starEach es X.env)).any (·.1) = false := by rfl) :
    PE X (.Call (.Name x p) (e :: es) [] pos) (tCall sp dvs E t) := by
  constructor
  intro pins s σ H Q I h
  refine wpAny_Call_Name_kw (ld_glob I hg hm ?_ hdb)
  refine PySem.W.callWith_K (h₀ := X.base) I.ok.mod.kin hk ?_ he hpl
  refine thn (ha.run pos pins s σ H _ I h) fun us s1 q => ?_
  obtain ⟨vs, H1, I1, r, q⟩ := q
  exact ⟨I1.kIn, run_G hgd F hr hb hd hx I1 r q⟩
/-- f(k = v, ..): keywords alone -/
def tCallN0 (m : Nat) (sp : Sp) (gV : List V → List V → List V) (E : XK) (tk : TA) : TE := fun σ H Q =>
  tk σ H fun zs H2 => zs.length = m ∧ sp (gV [] zs) H2 Q E
theorem pe_callN0 (F : FnOk X.prog X.w X.K X.mg X.base CX k f fd ps sp) (hr : Room k X.A) (hg : Gl X x)
    (hm : X.mg x = some (.ref f)) (hk : PySem.W.keepIn X.K (.ref f) = true) (hb : KBn X.K fd ps 0 ks g gV)
    (hx : Passes CX X E) (hkw : PK X kws tk)
    (hall : (backToKw pos (keywordEach kws X.env)).all (·.1.isSome) = true := by rfl)
    (hks : (backToKw pos (keywordEach kws X.env)).filterMap (·.1) = ks := by rfl)
    (hdb : (x == ("__debug__" : Str)) = false := by decide)
    (hpl : ((backTo pos (starEach [] X.env)).any (·.1) || (backToKw pos (keywordEach kws X.env)).any (·.1.isNone)) = false := by rfl) :
    PE X (.Call (.Name x p) [] kws pos) (tCallN0 ks.length sp gV E tk) := by
  constructor
  intro pins s σ H Q I h
  refine wpAny_Call_Name_kw (ld_glob I hg hm ?_ hdb)
  refine PySem.W.callWith_KW0 (h₀ := X.base) I.ok.mod.kin hk hall ?_ hpl
  refine thn (hkw.run pos pins s σ H _ I h) fun ws s2 q => ?_
  obtain ⟨zs, H2, I2, rz, l2, q2⟩ := q
  refine ⟨I2.kIn, ?_⟩
  rw [hks]
  exact run_fnN F hr hb hx I2 (.nil : Vals [] []) rz rfl l2 q2
theorem pe_callNG (hgd : X.A.guards = some []) (F : FnG X.prog X.w X.K X.mg X.base CX k f fd ps sp) (hr : Room k X.A) (hg : Gl X x)
    (hm : X.mg x = some (.ref f)) (hk : PySem.W.keepIn X.K (.ref f) = true) (hb : Binds X.K fd ps ds) (hd : Vals dvs ds)
    (hx : Passes CX X E) (hdb : (x == ("__debug__" : Str)) = false := by decide) :
    PE X (.Call (.Name x p) [] [] pos) (tCall sp dvs E tNil) := by
  constructor
  intro pins s σ H Q I h
  refine wpAny_Call_Name_kw (ld_glob I hg hm ?_ hdb)
  exact PySem.W.callWith_K0 I.kIn hk (run_G (us := []) hgd F hr hb hd hx I .nil h)
end

/-! ### repr of data -/
mutual
theorem noDict {K : PySem.W.Frag} {H : Hp} : ∀ (d : PyData) (v : V), Dp K H v d → d.hasDict = false
  | .none, _, _ => by simp only [PyData.hasDict]
  | .bool _, _, _ => by simp only [PyData.hasDict]
  | .int _, _, _ => by simp only [PyData.hasDict]
  | .str _, _, _ => by simp only [PyData.hasDict]
  | .list ds, _, h => by
    cases h with
    | lst _ ha =>
      simp only [PyData.hasDict]
      exact noDictAll ds _ ha
  | .tuple ds, _, h => by
    cases h with
    | tup _ ha =>
      simp only [PyData.hasDict]
      exact noDictAll ds _ ha
  | .dict _, _, h => by cases h
theorem noDictAll {K : PySem.W.Frag} {H : Hp} : ∀ (ds : List PyData) (vs : List V), DpAll K H vs ds → PyData.hasDictAll ds = false
  | [], _, _ => by simp only [PyData.hasDictAll]
  | d :: ds, _, h => by
    cases h with
    | cons h1 h2 =>
      simp only [PyData.hasDictAll, noDict d _ h1, noDictAll ds _ h2, Bool.or_false]
end
/-- what repr asks of its data -/
structure Showy (d : PyData) : Prop where
  sh : d.showable = true
  dp : d.depth ≤ 60
  ln : d.shown.length ≤ sizeLine
def rRepr (K : PySem.W.Frag) : List V → Hp → VK → Prop := fun xs H Q =>
  ∃ x d, xs = [x] ∧ Dp K H x d ∧ Showy d ∧ Q (.str d.shown) H
theorem call_reprD {X : Cx} {k : Nat} (hg : X.A.guards = some []) (hr : Room k X.A) : CallR X (.builtin "repr") (rRepr X.K) := by
  intro pins s σ H xs us Q I r h
  obtain ⟨x, d, rfl, hd, sy, q⟩ := h
  obtain ⟨u, rfl, rx⟩ := vals1 r
  obtain ⟨as, rd⟩ := Dp.reads I d x u hd rx
  have nd := noDict d x hd
  obtain ⟨hs, hdp, hl⟩ := sy
  cases hd with
  | non =>
    cases rx
    exact PySem.P.repr_of_none ⟨.str _, H, I.tok _, ⟨_, by simp only [PyData.shown] <;> rfl⟩, q⟩
  | bl b =>
    cases rx
    exact PySem.P.repr_of_bool ⟨.str _, H, I.tok _, ⟨_, by simp only [PyData.shown] <;> rfl⟩, q⟩
  | int i =>
    obtain ⟨t, rfl⟩ := rx
    have hi : i.natAbs.log2 < 1920 := by simpa [PyData.showable] using hs
    exact PySem.P.repr_of_int hi ⟨.str _, H, I.tok _, ⟨_, by simp only [PyData.shown] <;> rfl⟩, q⟩
  | str z =>
    obtain ⟨t, rfl⟩ := rx
    exact PySem.P.repr_of_str ⟨.str _, H, I.tok _, ⟨_, by simp only [PyData.shown] <;> rfl⟩, q⟩ (by simpa only [PyData.shown] using hl)
  | lst hs' ha =>
    cases rx
    have un := hr.units
    exact repr_of_reads' rd hs (PyData.noDict_hsm nd) hg (by omega) (fun _ _ e => e)
      (fun h' u tk kp => ⟨.str _, H, I.kept kp, ⟨u, rfl⟩, q⟩) hl
  | tup hs' ha =>
    cases rx
    have un := hr.units
    exact repr_of_reads' rd hs (PyData.noDict_hsm nd) hg (by omega) (fun _ _ e => e)
      (fun h' u tk kp => ⟨.str _, H, I.kept kp, ⟨u, rfl⟩, q⟩) hl
end Hw

/-! The end of a law's row for a law whose def is run where no guard stands; the script's bits are told. -/
namespace Hw
open PySem PySem.Spec PyProof.Rows L2
section
variable {P : Program} {w : World} {K : PySem.W.Frag} {mg mb : Str → Option Value} {CX : CXT} {k : Nat} {fa a : Addr}
variable {fd : FuncData} {x : Str} {sp : Sp} {s₁ : Shared} {vs : List Value} {ns : List Int}
/-- from an abstract heap in which at most the script is tracked, locked -/
theorem lawG_core (KX : K.In s₁.heap) (hns : s₁.heap.Ns mainGlobals mg) (hb : s₁.heap.Ns builtinsNs mb)
    (hbb : ∀ x : Str, x ≠ "__name__" → mb x = bootBuiltins x) (hlim : s₁.heap.NoLimit) (hg : s₁.gens = #[])
    (ha : s₁.heap.get? a = some { cls := .type "list", data := .seq vs.toArray }) (hr : Room k callerA)
    (F : ∀ base : Heap, K.In base → base.Ns mainGlobals mg → FnG P w K mg base CX k fa fd [x] sp)
    (hbind : ∀ (s : Shared) (u : Value), BindsTo s fd ⟨[u], []⟩ [(x, u)])
    (hCX : ∀ H e s', CX [] H s₁ (fun _ _ _ => False) e s' → False)
    (H : Hp) (hO : Only H) (hsp : sp [.ref a] H (fun v _ => v = .bl true) fun _ _ _ => False) (hok : HOk P w H s₁.heap)
    (hA : ∀ b, H b ≠ none → b = a) (hK : H a ≠ none → K.lookup a = none) :
    codeAny (model P w) callerA (.call (.ref fa) ⟨[.ref a], []⟩)
      (fun r s' => r = .ok (.ret (.bool true)) ∧ OldK s₁.heap s'.heap ∧ s'.os = s₁.os ∧ AllBare s'.gens) s₁ := by
  have stays : ∀ {b : Addr} {o : Obj}, s₁.heap.get? b = some o → H b = none → (hidT s₁.heap H).get? b = some o :=
    fun e n => hidT_get e n
  have isA : ∀ {b : Addr} {u : HO}, H b = some u → b = a := fun {b u} q => hA b (by rw [q]; simp)
  have noDic : ∀ {b : Addr} {o : Obj} {es : Array DictEntry} {ep : Nat}, s₁.heap.get? b = some o → o.data = .dict es ep → H b = none := by
    intro b o es ep e d
    cases q : H b with
    | none => rfl
    | some u =>
      rw [isA q, ha] at e
      cases e
      cases (show Data.seq vs.toArray _ = Data.dict es ep from d)
  have names : ∀ {b : Addr} {m : Str → Option Value}, s₁.heap.Ns b m → (hidT s₁.heap H).Ns b m := by
    rintro b m ⟨o, es, ep, e, d, r⟩
    exact ⟨o, es, ep, stays e (noDic e d), d, r⟩
  have kin : K.In (hidT s₁.heap H) := by
    intro b o e
    refine stays (KX b o e) ?_
    cases q : H b with
    | none => rfl
    | some u =>
      have e' := isA q
      subst e'
      rw [hK (by rw [q]; simp)] at e
      cases e
  obtain ⟨mc, l1, l2⟩ := hlim
  have md : Mod K mg (hidT s₁.heap H) := ⟨kin, names hns, ⟨mb, names hb, hbb⟩, ⟨mc, names l1, l2⟩⟩
  have e0 : Env0 P w K mg (hidT s₁.heap H) callerA [] s₁ H :=
    ⟨rfl, md, fun b o e => of_hidT e, Nat.le_of_eq (hidT_size _ _), trivial,
      fun b hb => absurd (show b ∈ ([] : List Addr) from hb) (by simp), hok, .of_eq hg⟩
  have go := (F _ kin (names hns)).run callerA [] s₁ H ⟨[.ref a], []⟩ [.ref a] [.ref a] _ _ rfl hr e0
    (hbind s₁ (.ref a)) (.cons rfl .nil) hsp
  refine codeAny_mono go fun r s' h => ?_
  match r, h with
  | .error e, h => exact (hCX H e s' h).elim
  | .ok .next, h => exact False.elim h
  | .ok .brk, h => exact False.elim h
  | .ok .cont, h => exact False.elim h
  | .ok (.ret u), h =>
    obtain ⟨v, H', os, bare, un, hok', r', q⟩ := h
    obtain rfl : v = .bl true := q
    obtain rfl : u = Value.bool true := r'
    refine ⟨rfl, OldK.of_keep fun b o e => ?_, os, bare⟩
    cases q : H b with
    | none => exact un.keep b o e q (fun z => absurd (show b ∈ ([] : List Addr) from z) (by simp)) (by simp)
    | some u =>
      rcases hO b with z | ⟨ob, xs, z⟩
      · rw [q] at z
        cases z
      · have z2 := un.frzs b ob _ z
        have e1 := (hok b _ z).1
        have e2 := (hok' b _ z2).1
        rw [e] at e1
        cases e1
        exact e2
theorem lawG (KX : K.In s₁.heap) (hns : s₁.heap.Ns mainGlobals mg) (hb : s₁.heap.Ns builtinsNs mb)
    (hbb : ∀ x : Str, x ≠ "__name__" → mb x = bootBuiltins x) (hlim : s₁.heap.NoLimit) (hg : s₁.gens = #[])
    (ha : s₁.heap.get? a = some { cls := .type "list", data := .seq vs.toArray }) (hi : IntsAre vs ns) (hl : ns.length ≤ sizeLine)
    (hr : Room k callerA) (F : ∀ base : Heap, K.In base → base.Ns mainGlobals mg → FnG P w K mg base CX k fa fd [x] sp)
    (hbind : ∀ (s : Shared) (u : Value), BindsTo s fd ⟨[u], []⟩ [(x, u)])
    (hsp : ∀ H : Hp, Only H → SqL K H a (ns.map V.int) → sp [.ref a] H (fun v _ => v = .bl true) fun _ _ _ => False)
    (hCX : ∀ H e s', CX [] H s₁ (fun _ _ _ => False) e s' → False) :
    codeAny (model P w) callerA (.call (.ref fa) ⟨[.ref a], []⟩)
      (fun r s' => r = .ok (.ret (.bool true)) ∧ OldK s₁.heap s'.heap ∧ s'.os = s₁.os ∧ AllBare s'.gens) s₁ := by
  have rv := vals_ints hi
  have lenV := hi.length
  cases hk : K.lookup a with
  | some o =>
    have e := KX a o hk
    rw [ha] at e
    cases e
    have sq : SqL K (fun _ => none) a (ns.map V.int) :=
      .inr ⟨_, vs.toArray, _, hk, rfl, rfl, rfl, by rw [List.size_toArray, lenV]; exact hl, by simpa using rv⟩
    exact lawG_core KX hns hb hbb hlim hg ha hr F hbind hCX (fun _ => none) (fun _ => .inl rfl) (hsp _ (fun _ => .inl rfl) sq)
      (fun b u z => nomatch (show (none : Option HO) = some u from z)) (fun b z => absurd rfl z) fun z => absurd rfl z
  | none =>
    have on : Only (fun b => if b = a then some (.frz { cls := .type "list", data := .seq vs.toArray } (.lst (ns.map V.int))) else none) := by
      intro b
      by_cases hb : b = a
      · exact .inr ⟨_, _, if_pos hb⟩
      · exact .inl (if_neg hb)
    refine lawG_core KX hns hb hbb hlim hg ha hr F hbind hCX _ on (hsp _ on (.inl (.inr ⟨_, if_pos rfl⟩))) (fun b u z => ?_) (fun b z => ?_) fun _ => hk
    · by_cases hb : b = a
      · cases (if_pos hb).symm.trans z
        subst hb
        exact ⟨ha, by rw [List.length_map]; exact hl, vs, _, rv, ha⟩
      · cases (if_neg hb).symm.trans z
    · by_cases hb : b = a
      · exact hb
      · exact absurd (if_neg hb) z
end
/-- the goal behind the head -/
theorem walkG {l : PySem.W.OpenLaw} {n k : Nat} {q : Program} {loose : List Str} {XP : (Str → Option Value) → Heap → Prop}
    {YP : World → Heap → Prop} {d : DefRec} {CX : World → CXT} {x : Str} (hn : l.most = some n) (hn2 : n ≤ sizeLine)
    (hdf : d.params.defaults = []) (hr : Room k callerA)
    (F : ∀ (w : World) (mg : Str → Option Value) (fa : Addr) (h : Heap), YP w h → h.Ns mainGlobals mg → mg d.name = some (.ref fa) →
      ∃ (K : PySem.W.Frag) (fd : FuncData) (sp : Sp), K.In h ∧ (∀ (s : Shared) (u : Value), BindsTo s fd ⟨[u], []⟩ [(x, u)]) ∧
        (∀ (H : Hp) (a : Addr) (ns : List Int), ns.length ≤ n → (∀ z ∈ ns, Builtin.Int.intBits z ≤ 1048576) → Only H →
          SqL K H a (ns.map V.int) → sp [.ref a] H (fun v _ => v = .bl true) fun _ _ _ => False) ∧
        ∀ base : Heap, K.In base → base.Ns mainGlobals mg → FnG l.prog w K mg base (CX w) k fa fd [x] sp)
    (hCX : ∀ (w : World) (H : Hp) (s : Shared) (e : Value) (s' : Shared), CX w [] H s (fun _ _ _ => False) e s' → False) :
    PySem.W.WalkO q loose XP YP l.row.toRowW d [] (fun f vs => PySem.call f vs) := by
  refine Att.attach_callB hn hdf ?_
  intro w s₀ s₁ mg mb fa o pm cd doc a vs ns G Y ho hd hcd hmg hobj hints hlen hbits hg
  obtain ⟨K, fd, sp, KX, hb, hsp, hF⟩ := F w mg fa _ Y G.T.g hmg
  exact lawG KX G.T.g G.T.b G.T.builtins G.T.nolimit hg hobj hints (Nat.le_trans hlen hn2) hr hF hb
    (fun H hO hS => hsp H a ns hlen hbits hO hS) fun H e s' => hCX w H s₁ e s'
end Hw

/-! Callees by name; what evaluates to what: further rules; lists of numbers. -/
namespace Hw
open PySem PySem.Spec PyProof.Rows L2 Evl

/-! ### a def as its callers know it -/
structure Callee (P : Program) (w : World) (K : PySem.W.Frag) (mg : Str → Option Value) (base : Heap) (CX : CXT)
    (k : Nat) (x : Str) (ps : List Str) (dvs : List V) (sp : Sp) : Prop where
  ex : ∃ (fd : FuncData) (ds : List Value), FnOk P w K mg base CX k (He.ga K x) fd ps sp ∧ Binds K fd ps ds ∧ Vals dvs ds
  g : mg x = some (.ref (He.ga K x))
  kp : PySem.W.keepIn K (.ref (He.ga K x)) = true
/-- called by keywords alone -/
structure KCallee (P : Program) (w : World) (K : PySem.W.Frag) (mg : Str → Option Value) (base : Heap) (CX : CXT)
    (k : Nat) (x : Str) (ps ks : List Str) (gV : List V → List V → List V) (sp : Sp) : Prop where
  ex : ∃ (fd : FuncData) (g : List Value → List Value → List Value), FnOk P w K mg base CX k (He.ga K x) fd ps sp ∧ KBn K fd ps 0 ks g gV
  g : mg x = some (.ref (He.ga K x))
  kp : PySem.W.keepIn K (.ref (He.ga K x)) = true
structure GCallee (P : Program) (w : World) (K : PySem.W.Frag) (mg : Str → Option Value) (base : Heap) (CX : CXT)
    (k : Nat) (x : Str) (ps : List Str) (dvs : List V) (sp : Sp) : Prop where
  ex : ∃ (fd : FuncData) (ds : List Value), FnG P w K mg base CX k (He.ga K x) fd ps sp ∧ Binds K fd ps ds ∧ Vals dvs ds
  g : mg x = some (.ref (He.ga K x))
  kp : PySem.W.keepIn K (.ref (He.ga K x)) = true
section
variable {X : Cx} {CX : CXT} {k j : Nat} {ps ks : List Str} {sp : Sp} {dvs : List V} {E : XK}
variable {x : Str} {p pos : Pos} {e : Expr} {es : List Expr} {kws : List Keyword} {t tk : TA} {gV : List V → List V → List V}
theorem pe_cc (c : Callee X.prog X.w X.K X.mg X.base CX k x ps dvs sp) (hr : Room k X.A) (hg : Gl X x) (hx : Passes CX X E)
    (ha : PA X (e :: es) t) (hdb : (x == ("__debug__" : Str)) = false := by decide)
    (he : starEach (e :: es) X.env = (false, eval e X.env) :: starEach es X.env := by rfl)
    (hpl : (backTo pos (starEach es X.env)).any (·.1) = false := by rfl) :
    PE X (.Call (.Name x p) (e :: es) [] pos) (tCall sp dvs E t) := by
  obtain ⟨fd, ds, F, b, hv⟩ := c.ex
  exact pe_call F hr hg c.g c.kp b hv hx ha hdb he hpl
theorem pe_cc0 (c : Callee X.prog X.w X.K X.mg X.base CX k x ps dvs sp) (hr : Room k X.A) (hg : Gl X x) (hx : Passes CX X E)
    (hdb : (x == ("__debug__" : Str)) = false := by decide) : PE X (.Call (.Name x p) [] [] pos) (tCall sp dvs E tNil) := by
  obtain ⟨fd, ds, F, b, hv⟩ := c.ex
  exact pe_call0 F hr hg c.g c.kp b hv hx hdb
theorem pe_ccG (hgd : X.A.guards = some []) (c : GCallee X.prog X.w X.K X.mg X.base CX k x ps dvs sp) (hr : Room k X.A) (hg : Gl X x)
    (hx : Passes CX X E) (ha : PA X (e :: es) t) (hdb : (x == ("__debug__" : Str)) = false := by decide)
    (he : starEach (e :: es) X.env = (false, eval e X.env) :: starEach es X.env := by rfl)
    (hpl : (backTo pos (starEach es X.env)).any (·.1) = false := by rfl) :
    PE X (.Call (.Name x p) (e :: es) [] pos) (tCall sp dvs E t) := by
  obtain ⟨fd, ds, F, b, hv⟩ := c.ex
  exact pe_callG hgd F hr hg c.g c.kp b hv hx ha hdb he hpl
theorem pe_ck (c : KCallee X.prog X.w X.K X.mg X.base CX k x ps ks gV sp) (hr : Room k X.A) (hg : Gl X x) (hx : Passes CX X E)
    (hkw : PK X kws tk) (hall : (backToKw pos (keywordEach kws X.env)).all (·.1.isSome) = true := by rfl)
    (hks : (backToKw pos (keywordEach kws X.env)).filterMap (·.1) = ks := by rfl)
    (hdb : (x == ("__debug__" : Str)) = false := by decide)
    (hpl : ((backTo pos (starEach [] X.env)).any (·.1) || (backToKw pos (keywordEach kws X.env)).any (·.1.isNone)) = false := by rfl) :
    PE X (.Call (.Name x p) [] kws pos) (tCallN0 ks.length sp gV E tk) := by
  obtain ⟨fd, g, F, b⟩ := c.ex
  exact pe_callN0 F hr hg c.g c.kp b hx hkw hall hks hdb hpl
end
section
variable {P : Program} {w : World} {K : PySem.W.Frag} {mg : Str → Option Value} {base : Heap} {CX : CXT}
variable {k : Nat} {x : Str} {ps : List Str} {sp : Sp} {dvs : List V} {N : List Str} {pa : Arguments} {bo : List Stmt} {sc : Scope} {dfl : List V}
theorem Callee.mono {j : Nat} (c : Callee P w K mg base CX j x ps dvs sp) (h : j ≤ k) : Callee P w K mg base CX k x ps dvs sp := by
  obtain ⟨fd, ds, F, b, hv⟩ := c.ex
  exact ⟨⟨fd, ds, F.mono h, b, hv⟩, c.g, c.kp⟩
theorem Callee.imp {sp' : Sp} (c : Callee P w K mg base CX k x ps dvs sp) (h : ∀ vs H Q E, sp' vs H Q E → sp vs H Q E) : Callee P w K mg base CX k x ps dvs sp' := by
  obtain ⟨fd, ds, F, b, hv⟩ := c.ex
  exact ⟨⟨fd, ds, F.imp h, b, hv⟩, c.g, c.kp⟩
/-- what is shown of a body that lets nothing out -/
abbrev BodyOk (P : Program) (w : World) (K : PySem.W.Frag) (mg : Str → Option Value) (base : Heap) (N : List Str) (x : Str) (sc : Scope) (bo : List Stmt) (k : Nat) (sp : Sp) : Prop :=
  ∀ (cdv : Value) (f : Addr) (A : Around) (outer : List Env) (s : Shared) (H : Hp) (vs : List V) (Q : VK) (E : XK),
    Room k (A.deeper (envOfC x sc s.heap.objs.size f cdv)) → sp vs H Q E →
      ∃ t, PSs (cxOf CX0 P w K mg base N x sc f cdv A outer s H E).nox bo t ∧ t { nx := fun _ H' => Q .non H', rt := Q } (start N vs) H
/-- a def without defaults, from its body -/
theorem callee_of (hg : mg x = some (.ref (He.ga K x))) (hF : ∃ fd, FunD K x x pa bo sc [] [] (He.ga K x) fd) (S : FnScope N ps sc)
    (hb : ∀ (kV doc pm : Value) (an : Option Addr) (cdv ct : Value) (us : List Value), us.length = ps.length →
      bindArgs (PySem.W.fnOf x x pa bo sc .none kV doc pm an cdv ct) ⟨us, []⟩ = pure (ps.zip us))
    (len : ∀ vs H Q E, sp vs H Q E → vs.length = ps.length) (body : BodyOk P w K mg base N x sc bo k sp) :
    Callee P w K mg base CX0 (k + 1) x ps [] sp := by
  obtain ⟨fd, F⟩ := hF
  refine ⟨⟨fd, [], ?_, F.bindsN hb, .nil⟩, hg, F.kp⟩
  refine F.ok S len fun cdv A outer s H vs Q E hr h => ?_
  obtain ⟨t, ht, q⟩ := body cdv _ A outer s H vs Q E hr h
  exact ⟨t, ht.nox, q⟩
/-- the same def by keywords alone, all of them -/
theorem kcallee_of {ks : List Str} {g : List Value → List Value → List Value} {gV : List V → List V → List V}
    (hF : ∃ fd, FunD K x x pa bo sc [] [] (He.ga K x) fd) (S : FnScope N ps sc) (hg : mg x = some (.ref (He.ga K x)))
    (hb : ∀ (kV doc pm : Value) (an : Option Addr) (cdv ct : Value) (us ws : List Value), us.length = 0 → ws.length = ks.length →
      bindArgs (PySem.W.fnOf x x pa bo sc .none kV doc pm an cdv ct) ⟨us, ks.zip ws⟩ = pure (ps.zip (g us ws)))
    (hv : ∀ {vs : List V} {us : List Value} {zs : List V} {ws : List Value}, Vals vs us → Vals zs ws → Vals (gV vs zs) (g us ws))
    (len : ∀ vs H Q E, sp vs H Q E → vs.length = ps.length) (body : BodyOk P w K mg base N x sc bo k sp) :
    KCallee P w K mg base CX0 (k + 1) x ps ks gV sp := by
  obtain ⟨fd, F⟩ := hF
  have kp := F.kp
  refine ⟨⟨fd, g, ?_, ?_⟩, hg, kp⟩
  · refine F.ok S len fun cdv A outer s H vs Q E hr h => ?_
    obtain ⟨t, ht, q⟩ := body cdv _ A outer s H vs Q E hr h
    exact ⟨t, ht.nox, q⟩
  · obtain ⟨oc, od, dV, kV, doc, pm, an, cdv, ct, osl, rfl, lk, hcd, hD, hK⟩ := F.ex
    rcases hD with ⟨_, rfl⟩ | ⟨e, _⟩
    · exact ⟨fun s us ws _ l1 l2 => .of_eq (hb kV doc pm an cdv ct us ws l1 l2), fun r1 r2 => hv r1 r2⟩
    · exact absurd rfl e
/-- with defaults: n arguments are written -/
theorem callee_ofD (n j : Nat) (hd : dfl ≠ []) (hn : n + (dfl.length - j) = ps.length) (hg : mg x = some (.ref (He.ga K x)))
    (hF : ∃ fd, FunD K x x pa bo sc dfl [] (He.ga K x) fd) (S : FnScope N ps sc)
    (hb : ∀ (T : Addr) (kV doc pm : Value) (an : Option Addr) (cdv ct : Value) (us its : List Value), us.length = n → its.length = dfl.length →
      ∃ k, bindArgs (PySem.W.fnOf x x pa bo sc (.ref T) kV doc pm an cdv ct) ⟨us, []⟩ = seqItems? (.ref T) >>= k ∧ k (some its.toArray) = pure (ps.zip (us ++ its.drop j)))
    (len : ∀ vs H Q E, sp vs H Q E → vs.length = ps.length) (body : BodyOk P w K mg base N x sc bo k sp) :
    Callee P w K mg base CX0 (k + 1) x ps (dfl.drop j) sp := by
  obtain ⟨fd, F⟩ := hF
  obtain ⟨ds, hv, b⟩ := F.binds1 n j hd hn hb
  refine ⟨⟨fd, ds, ?_, b, hv⟩, hg, F.kp⟩
  refine F.ok S len fun cdv A outer s H vs Q E hr h => ?_
  obtain ⟨t, ht, q⟩ := body cdv _ A outer s H vs Q E hr h
  exact ⟨t, ht.nox, q⟩
/-- with defaults, all arguments written -/
theorem callee_ofDall (hg : mg x = some (.ref (He.ga K x))) (hd : dfl ≠ []) (hF : ∃ fd, FunD K x x pa bo sc dfl [] (He.ga K x) fd) (S : FnScope N ps sc)
    (hb : ∀ (T : Addr) (kV doc pm : Value) (an : Option Addr) (cdv ct : Value) (us its : List Value), us.length = ps.length → its.length = dfl.length →
      ∃ k, bindArgs (PySem.W.fnOf x x pa bo sc (.ref T) kV doc pm an cdv ct) ⟨us, []⟩ = seqItems? (.ref T) >>= k ∧ k (some its.toArray) = pure (ps.zip us))
    (len : ∀ vs H Q E, sp vs H Q E → vs.length = ps.length) (body : BodyOk P w K mg base N x sc bo k sp) :
    Callee P w K mg base CX0 (k + 1) x ps [] sp := by
  have h := callee_ofD (P := P) (w := w) (base := base) (sp := sp) (k := k) ps.length dfl.length hd (by omega) hg hF S (fun T kV doc pm an cdv ct us its h1 h2 => by
    obtain ⟨k, e1, e2⟩ := hb T kV doc pm an cdv ct us its h1 h2
    refine ⟨k, e1, ?_⟩
    rw [e2, List.drop_of_length_le (by omega), List.append_nil]) len body
  rw [List.drop_of_length_le (Nat.le_refl _)] at h
  exact h
/-- the law's own def -/
theorem lawfn_of {fd : FuncData} (F : FunD K x x pa bo sc [] [] (He.ga K x) fd) (S : FnScope N ps sc)
    (len : ∀ vs H Q E, sp vs H Q E → vs.length = ps.length)
    (body : ∀ (cdv : Value) (f : Addr) (A : Around) (outer : List Env) (s : Shared) (H : Hp) (vs : List V) (Q : VK) (E : XK), A.guards = some [] →
      Room k (A.deeper (envOfC x sc s.heap.objs.size f cdv)) → sp vs H Q E →
        ∃ t, PSs (cxOf CX0 P w K mg base N x sc f cdv A outer s H E).nox bo t ∧ t { nx := fun _ H' => Q .non H', rt := Q } (start N vs) H) :
    FnG P w K mg base CX0 (k + 1) (He.ga K x) fd ps sp := by
  refine okG F S len fun cdv A outer s H vs Q E hga hr h => ?_
  obtain ⟨t, ht, q⟩ := body cdv _ A outer s H vs Q E hga hr h
  exact ⟨t, ht.nox, q⟩
/-- a def that is run where no guard stands -/
theorem gcallee_of (hg : mg x = some (.ref (He.ga K x))) (hF : ∃ fd, FunD K x x pa bo sc [] [] (He.ga K x) fd) (S : FnScope N ps sc)
    (hb : ∀ (kV doc pm : Value) (an : Option Addr) (cdv ct : Value) (us : List Value), us.length = ps.length →
      bindArgs (PySem.W.fnOf x x pa bo sc .none kV doc pm an cdv ct) ⟨us, []⟩ = pure (ps.zip us))
    (len : ∀ vs H Q E, sp vs H Q E → vs.length = ps.length)
    (body : ∀ (cdv : Value) (f : Addr) (A : Around) (outer : List Env) (s : Shared) (H : Hp) (vs : List V) (Q : VK) (E : XK), A.guards = some [] →
      Room k (A.deeper (envOfC x sc s.heap.objs.size f cdv)) → sp vs H Q E →
        ∃ t, PSs (cxOf CX0 P w K mg base N x sc f cdv A outer s H E).nox bo t ∧ t { nx := fun _ H' => Q .non H', rt := Q } (start N vs) H) :
    GCallee P w K mg base CX0 (k + 1) x ps [] sp := by
  obtain ⟨fd, F⟩ := hF
  refine ⟨⟨fd, [], ?_, F.bindsN hb, .nil⟩, hg, F.kp⟩
  refine okG F S len fun cdv A outer s H vs Q E hga hr h => ?_
  obtain ⟨t, ht, q⟩ := body cdv _ A outer s H vs Q E hga hr h
  exact ⟨t, ht.nox, q⟩
end

theorem vals_getD : ∀ {zs : List V} {ws : List Value}, Vals zs ws → ∀ i : Nat, L2.RelV (zs.getD i .non) (ws.getD i .none)
  | _, _, .nil, i => by
    rw [List.getD_nil, List.getD_nil]
    exact rfl
  | _, _, .cons r t, 0 => by simpa using r
  | _, _, .cons r t, i + 1 => by simpa using vals_getD t i
/-! ### lists of numbers -/
def nl (ws : List Nat) : List V := ws.map fun (n : Nat) => V.int (n : Int)
def il (ns : List Int) : List V := ns.map V.int
theorem nl_len (ws : List Nat) : (nl ws).length = ws.length := by simp [nl]
theorem il_len (ns : List Int) : (il ns).length = ns.length := by simp [il]
theorem nl_il (ws : List Nat) : nl ws = il (ws.map fun (n : Nat) => (n : Int)) := by simp [nl, il]
theorem nl_get {ws : List Nat} {i : Nat} (h : i < ws.length) : (nl ws)[i]? = some (.int ((ws[i] : Nat) : Int)) := by
  unfold nl
  rw [List.getElem?_map, List.getElem?_eq_getElem h]
  rfl
theorem nl_get' {ws : List Nat} {i : Nat} {x : V} (h : (nl ws)[i]? = some x) : ∃ n, ws[i]? = some n ∧ x = .int ((n : Nat) : Int) := by
  unfold nl at h
  rw [List.getElem?_map] at h
  cases e : ws[i]? with
  | none => rw [e] at h; cases h
  | some n => rw [e] at h; exact ⟨n, rfl, (Option.some.inj h).symm⟩
theorem il_get' {ws : List Int} {i : Nat} {x : V} (h : (il ws)[i]? = some x) : ∃ n, ws[i]? = some n ∧ x = .int n := by
  unfold il at h
  rw [List.getElem?_map] at h
  cases e : ws[i]? with
  | none => rw [e] at h; cases h
  | some n => rw [e] at h; exact ⟨n, rfl, (Option.some.inj h).symm⟩
theorem atI_nl {ws : List Nat} {i : Nat} (h : i < ws.length) : atI (nl ws) (i : Int) = some (.int ((ws[i] : Nat) : Int)) := atI_nat (nl_get h)
theorem atI_nlD {ws : List Nat} {i : Nat} (h : i < ws.length) : atI (nl ws) (i : Int) = some (.int ((ws.getD i 0 : Nat) : Int)) := by
  rw [atI_nl h]
  simp [List.getD, h]
theorem atI_back {α : Type} {xs : List α} {v : α} (h : xs.getLast? = some v) : atI xs (-1) = some v := by
  obtain ⟨ys, rfl⟩ := List.getLast?_eq_some_iff.mp h
  exact atI_last ys v
theorem nl_last {ws : List Nat} {n : Nat} (h : ws.getLast? = some n) : atI (nl ws) (-1) = some (.int (n : Int)) := by
  refine atI_back ?_
  unfold nl
  rw [List.getLast?_map, h]
  rfl
theorem nl_append (a b : List Nat) : nl (a ++ b) = nl a ++ nl b := by simp [nl]
theorem nl_cons (a : Nat) (b : List Nat) : nl (a :: b) = .int (a : Int) :: nl b := rfl
theorem sIx_nn (n d : Nat) {o : Option Int} (k : Nat) (h : o = some (k : Int)) : HT.sIx n d o = min k n := by
  subst h
  exact HT.sIx_nat n d k
/-- xs[a:b], both ends not negative -/
theorem cutV_nn (xs : List V) (a b : Nat) : cutV xs (some (a : Int)) (some (b : Int)) = (xs.take b).drop a := by
  unfold cutV
  rw [HT.sIx_nat, HT.sIx_nat, List.drop_take]
  by_cases h : a ≤ xs.length
  · rw [Nat.min_eq_left h]
    by_cases hb : b ≤ xs.length
    · rw [Nat.min_eq_left hb]
    · rw [Nat.min_eq_right (by omega), List.take_of_length_le (by simp), List.take_of_length_le (by simp; omega)]
  · have h1 : min a xs.length = xs.length := Nat.min_eq_right (by omega)
    have h2 : xs.drop a = [] := List.drop_of_length_le (by omega)
    rw [h1, h2]
    simp
theorem cutV_0n (xs : List V) (b : Nat) : cutV xs none (some (b : Int)) = xs.take b := by
  unfold cutV
  rw [HT.sIx_nat, HT.sIx_none, List.drop_zero, Nat.sub_zero]
  by_cases hb : b ≤ xs.length
  · rw [Nat.min_eq_left hb]
  · rw [Nat.min_eq_right (by omega), List.take_length, List.take_of_length_le (by omega)]
theorem cutV_n0 (xs : List V) (a : Nat) : cutV xs (some (a : Int)) none = xs.drop a := by
  unfold cutV
  rw [HT.sIx_nat, HT.sIx_none]
  by_cases h : a ≤ xs.length
  · rw [Nat.min_eq_left h, List.take_of_length_le (by simp)]
  · have h1 : min a xs.length = xs.length := Nat.min_eq_right (by omega)
    have h2 : xs.drop a = [] := List.drop_of_length_le (by omega)
    rw [h1, h2]
    simp
theorem nl_take (ws : List Nat) (n : Nat) : (nl ws).take n = nl (ws.take n) := by simp [nl, List.map_take]
theorem nl_drop (ws : List Nat) (n : Nat) : (nl ws).drop n = nl (ws.drop n) := by simp [nl, List.map_drop]

/-! ### data -/
def dI (ns : List Int) : PyData := .list (ns.map PyData.int)
def dN (ws : List Nat) : PyData := .list (ws.map fun (n : Nat) => PyData.int (n : Int))
section
variable {K : PySem.W.Frag} {H H' : Hp}
theorem dpAll_il : ∀ ns : List Int, DpAll K H (il ns) (ns.map PyData.int)
  | [] => .nil
  | n :: ns => .cons (.int n) (dpAll_il ns)
theorem dpAll_nl : ∀ ns : List Nat, DpAll K H (nl ns) (ns.map fun (n : Nat) => PyData.int (n : Int))
  | [] => .nil
  | n :: ns => .cons (.int n) (dpAll_nl ns)
theorem dp_nl {a : Addr} {ws : List Nat} (h : SqL K H a (nl ws)) : Dp K H (.ref a) (dN ws) := .lst h (dpAll_nl ws)
theorem dp_il {a : Addr} {ws : List Int} (h : SqL K H a (il ws)) : Dp K H (.ref a) (dI ws) := .lst h (dpAll_il ws)
theorem dp_nil {a : Addr} (h : SqL K H a []) : Dp K H (.ref a) (.list []) := .lst h .nil
mutual
theorem Dp.mono (e : Ex H H') : ∀ (d : PyData) (v : V), Dp K H v d → Dp K H' v d
  | .none, _, h => by cases h; exact .non
  | .bool b, _, h => by cases h; exact .bl b
  | .int i, _, h => by cases h; exact .int i
  | .str x, _, h => by cases h; exact .str x
  | .list ds, _, h => by
    cases h with
    | lst hs ha => exact .lst (ex_l e hs) (DpAll.mono e ds _ ha)
  | .tuple ds, _, h => by
    cases h with
    | tup hs ha => exact .tup (ex_t e hs) (DpAll.mono e ds _ ha)
  | .dict _, _, h => by cases h
theorem DpAll.mono (e : Ex H H') : ∀ (ds : List PyData) (vs : List V), DpAll K H vs ds → DpAll K H' vs ds
  | [], _, h => by cases h; exact .nil
  | d :: ds, _, h => by
    cases h with
    | cons h1 h2 => exact .cons (Dp.mono e d _ h1) (DpAll.mono e ds _ h2)
end
theorem canAll_int : ∀ ns : List Int, PyData.canLayAll0 (ns.map PyData.int) = true
  | [] => by simp [PyData.canLayAll0]
  | n :: ns => by simp [PyData.canLayAll0, PyData.canLay0, canAll_int ns]
theorem depthAll_int : ∀ ns : List Int, PyData.depthAll (ns.map PyData.int) ≤ 1
  | [] => by simp [PyData.depthAll]
  | n :: ns => by
    have := depthAll_int ns
    simp only [List.map_cons, PyData.depthAll, PyData.depth]
    exact Nat.max_le.mpr ⟨by omega, this⟩
theorem shaped_dI (ns : List Int) : SeqAt.shaped (dI ns) = true := by
  unfold SeqAt.shaped dI
  have h1 := canAll_int ns
  have h2 := depthAll_int ns
  simp only [PyData.canLay0, PyData.depth, h1, Bool.true_and, decide_eq_true_eq]
  exact decide_eq_true (Nat.le_trans (Nat.add_le_add_right h2 1) (show 1 + 1 ≤ 64 by decide))
theorem dN_dI (ws : List Nat) : dN ws = dI (ws.map fun (n : Nat) => (n : Int)) := by simp [dN, dI]
theorem shaped_dN (ws : List Nat) : SeqAt.shaped (dN ws) = true := by rw [dN_dI]; exact shaped_dI _
theorem eqvAll_int : ∀ a b : List Int, PyData.eqvAll (a.map PyData.int) (b.map PyData.int) = decide (a = b)
  | [], [] => by simp [PyData.eqvAll]
  | [], _ :: _ => by simp [PyData.eqvAll]
  | _ :: _, [] => by simp [PyData.eqvAll]
  | x :: a, y :: b => by
    simp only [List.map_cons, PyData.eqvAll, PyData.eqv, eqvAll_int a b]
    by_cases h : x = y
    · subst h; simp
    · simp [h]
theorem eqv_dI (a b : List Int) : PyData.eqv (dI a) (dI b) = decide (a = b) := by
  unfold dI
  rw [PyData.eqv]
  exact eqvAll_int a b
theorem map_cast_inj : ∀ a b : List Nat, (a.map fun (n : Nat) => (n : Int)) = (b.map fun (n : Nat) => (n : Int)) → a = b
  | [], [], _ => rfl
  | [], _ :: _, h => by simp at h
  | _ :: _, [], h => by simp at h
  | x :: a, y :: b, h => by
    simp only [List.map_cons, List.cons.injEq] at h
    rw [Int.ofNat.inj h.1, map_cast_inj a b h.2]
theorem eqv_dN (a b : List Nat) : PyData.eqv (dN a) (dN b) = decide (a = b) := by
  rw [dN_dI, dN_dI, eqv_dI]
  by_cases h : a = b
  · subst h; simp
  · have : ¬ (a.map fun (n : Nat) => (n : Int)) = (b.map fun (n : Nat) => (n : Int)) := fun q => h (map_cast_inj a b q)
    rw [decide_eq_false h, decide_eq_false this]
end

/-! ### what evaluates to what -/
section
variable {K : PySem.W.Frag} {σ : L2.St} {H H' : Hp} {ta tb tc te tx : TE} {t u : TT} {x y z v : V} {r r' : R2}
theorem rv_eqD {d e : PyData} (hx : Dp K H x d) (hy : Dp K H y e) (sd : SeqAt.shaped d = true) (se : SeqAt.shaped e = true) : RV (rEqD K) x y H (.bl (PyData.eqv d e)) :=
  fun H1 e1 _ q => ⟨d, e, Dp.mono e1 _ _ hx, Dp.mono e1 _ _ hy, sd, se, q H1 (Ex.refl H1)⟩
theorem rv_neD {d e : PyData} (hx : Dp K H x d) (hy : Dp K H y e) (sd : SeqAt.shaped d = true) (se : SeqAt.shaped e = true) : RV (rNeD K) x y H (.bl (!PyData.eqv d e)) :=
  fun H1 e1 _ q => ⟨d, e, Dp.mono e1 _ _ hx, Dp.mono e1 _ _ hy, sd, se, q H1 (Ex.refl H1)⟩
def rIsN : R2 := fun x y H Q => y = .non ∧ Q (.bl (decide (x = .non))) H
theorem rv_isN : RV (fun x y H Q => y = .non ∧ Q (.bl (decide (x = .non))) H) x .non H (.bl (decide (x = .non))) := fun H1 _ _ q => ⟨rfl, q H1 (Ex.refl H1)⟩
theorem rv_notN : RV (fun x y H Q => y = .non ∧ Q (.bl (!decide (x = .non))) H) x .non H (.bl (!decide (x = .non))) := fun H1 _ _ q => ⟨rfl, q H1 (Ex.refl H1)⟩
theorem ev_chain {a b : Bool} (ha : Ev ta σ H x) (hb : Ev tb σ H y) (h1 : RV r x y H (.bl a)) (h2 : a = true → Ev tc σ H z ∧ RV r' y z H (.bl b)) : Ev (tChain r r' ta tb tc) σ H (.bl (a && b)) :=
  fun H1 e Q q => ha H1 e _ fun H2 e2 => hb H2 (e.trans e2) _ fun H3 e3 => h1 H3 ((e.trans e2).trans e3) _ fun H4 e4 => ⟨a, rfl, by
    have e14 := (e2.trans e3).trans e4
    cases a with
    | true =>
      obtain ⟨hc, h3⟩ := h2 rfl
      show tc σ H4 _
      exact hc H4 (e.trans e14) _ fun H5 e5 => h3 H5 ((e.trans e14).trans e5) Q fun H6 e6 => q H6 ((e14.trans e5).trans e6)
    | false =>
      show Q (.bl false) H4
      exact q H4 e14⟩
theorem et_chain {a b : Bool} (h : Ev (tChain r r' ta tb tc) σ H (.bl (a && b))) : EvT (tB (tChain r r' ta tb tc)) σ H (a && b) := et_B h
theorem ev_callN0 {m : Nat} {sp : Sp} {gV : List V → List V → List V} {E : XK} {tk : TA} {zs : List V} (h : EvA tk σ H zs) (hm : zs.length = m) (hs : SpV sp (gV [] zs) H z) : Ev (tCallN0 m sp gV E tk) σ H z :=
  fun H1 e Q q => h H1 e _ fun H2 e2 => ⟨hm, hs H2 (e.trans e2) Q (fun H3 e3 => q H3 (e2.trans e3)) E⟩
theorem rc_of {rc : List V → Hp → VK → Prop} {vs : List V} (h : ∀ H1, Ex H H1 → ∀ Q : VK, Q z H1 → rc vs H1 Q) : RC rc vs H z := fun H1 e Q q => h H1 e Q (q H1 (Ex.refl H1))
theorem tyx_l {a : Addr} {xs : List V} (h : SqL K H a xs) : TyX K H (.ref a) (.type "list") := by
  rcases h with (h | ⟨o, h⟩) | ⟨o, its, n, lk, hc, _⟩
  · exact .base (.lst h)
  · exact .base (.frz h)
  · exact .kList lk hc
theorem rc_isi {c : String} {tx : Value} {b : Bool} (ty : ∀ H1, Ex H H1 → TyX K H1 x tx) (h : PySem.W.kitOne K tx (.type c) = some b) : RC (rIsi K) [x, .ty c] H (.bl b) :=
  rc_of fun H1 e Q q => ⟨x, .ty c, tx, _, b, rfl, .ty c, ty H1 e, h, q⟩
theorem rc_isi_int {i : Int} {c : String} {b : Bool} (h : kitB "int" c = some b) : RC (rIsi K) [.int i, .ty c] H (.bl b) := rc_isi (fun _ _ => .base (.int i)) (kit_ty h)
theorem rc_isi_l {a : Addr} {xs : List V} {c : String} {b : Bool} (hs : SqL K H a xs) (h : kitB "list" c = some b) : RC (rIsi K) [.ref a, .ty c] H (.bl b) := rc_isi (fun _ e => tyx_l (ex_l e hs)) (kit_ty h)
theorem rc_all {a : Addr} {bs : List Bool} (hs : SqL K H a (bs.map V.bl)) : RC (rAll K) [.ref a] H (.bl (bs.all id)) := rc_of fun H1 e Q q => ⟨a, bs, rfl, ex_l e hs, q⟩
theorem rc_sum {a : Addr} {ns : List Int} (hs : SqL K H a (il ns)) : RC (rSum K) [.ref a] H (.int ns.sum) := rc_of fun H1 e Q q => ⟨a, ns, rfl, ex_l e hs, q⟩
theorem rc_len {a : Addr} {xs : List V} (hs : SqL K H a xs) : RC (fun xs H Q => ∃ p ys, xs = [.ref p] ∧ (SqL K H p ys ∨ SqT K H p ys) ∧ Q (.int ys.length) H) [.ref a] H (.int (xs.length : Int)) :=
  rc_of fun H1 e Q q => ⟨a, xs, rfl, .inl (ex_l e hs), q⟩
theorem rc_repr {d : PyData} (hx : Dp K H x d) (sy : Showy d) : RC (rRepr K) [x] H (.str d.shown) := rc_of fun H1 e Q q => ⟨x, d, rfl, Dp.mono e _ _ hx, sy, q⟩
theorem rc_intb {b : Bool} : RC (fun xs H Q => (∃ i, xs = [.int i] ∧ Q (.int i) H) ∨ ∃ k, xs = [.bl k] ∧ Q (.int (if k then 1 else 0)) H) [.bl b] H (.int (if b then 1 else 0)) :=
  rc_of fun H1 e Q q => .inr ⟨b, rfl, q⟩
theorem rc_abs {i : Int} : RC (fun xs H Q => ∃ i, xs = [.int i] ∧ Q (.int (if i < 0 then -i else i)) H) [.int i] H (.int (if i < 0 then -i else i)) := rc_of fun H1 e Q q => ⟨i, rfl, q⟩
theorem rc_max2 {i j : Int} : RC (fun xs H Q => ∃ i j, xs = [.int i, .int j] ∧ Q (.int (if j > i then j else i)) H) [.int i, .int j] H (.int (if j > i then j else i)) := rc_of fun H1 e Q q => ⟨i, j, rfl, q⟩
theorem rc_min2 {i j : Int} : RC (fun xs H Q => ∃ i j, xs = [.int i, .int j] ∧ Q (.int (if j < i then j else i)) H) [.int i, .int j] H (.int (if j < i then j else i)) := rc_of fun H1 e Q q => ⟨i, j, rfl, q⟩
/-- a call of one argument that is a new list: what the list's facts give -/
theorem ev_cbL {rc : List V → Hp → VK → Prop} {xs : List V} (h : EvL te σ H xs) (hr : ∀ p H1, H1 p = some (.lst xs) → Ex H H1 → RC rc [.ref p] H1 z) : Ev (tCB rc (tCons te tNil)) σ H z :=
  fun H1 e Q q => h H1 e _ fun p H2 _ e2 hp => hr p H2 hp (e.trans e2) H2 (Ex.refl H2) Q fun H3 e3 => q H3 (e2.trans e3)
/-- an operand, then a new list as the other one: the facts of the first at the base -/
theorem ev_ixNL {xs : List V} {i : Int} (ha : EvL ta σ H xs) (hb : ∀ H1, Ex H H1 → Ev tb σ H1 (.int i)) (hi : atI xs i = some z) : Ev (tOp (rIxL K) ta tb) σ H z :=
  ev_opL1 ha hb fun p H1 hp _ => rv_ixL (sq_of hp) hi
/-- a def's call whose one argument is a new list -/
theorem ev_callL {sp : Sp} {dvs xs : List V} {E : XK} {tr : TA} {vs : List V} (h : EvL te σ H xs) (hr : ∀ H1, Ex H H1 → EvA tr σ H1 vs)
    (hs : ∀ p H1, H1 p = some (.lst xs) → Ex H H1 → SpV sp (.ref p :: vs ++ dvs) H1 z) : Ev (tCall sp dvs E (tCons te tr)) σ H z :=
  fun H1 e Q q => h H1 e _ fun p H2 _ e2 hp => hr H2 (e.trans e2) H2 (Ex.refl H2) _ fun H3 e3 =>
    hs p H3 (e3 p _ hp) ((e.trans e2).trans e3) H3 (Ex.refl H3) Q (fun H4 e4 => q H4 ((e2.trans e3).trans e4)) E
theorem el_callL {sp : Sp} {dvs xs ys : List V} {E : XK} {tr : TA} {vs : List V} (h : EvL te σ H xs) (hr : ∀ H1, Ex H H1 → EvA tr σ H1 vs)
    (hs : ∀ p H1, H1 p = some (.lst xs) → Ex H H1 → SpL sp (.ref p :: vs ++ dvs) H1 ys) : EvL (tCall sp dvs E (tCons te tr)) σ H ys :=
  fun H1 e Q q => h H1 e _ fun p H2 _ e2 hp => hr H2 (e.trans e2) H2 (Ex.refl H2) _ fun H3 e3 =>
    hs p H3 (e3 p _ hp) ((e.trans e2).trans e3) H3 (Ex.refl H3) Q (fun r H4 hr e4 h4 => q r H4 (fresh_back (e2.trans e3) hr) ((e2.trans e3).trans e4) h4) E
theorem spv_retV {sp : Sp} {vs : List V} (h : ∀ H1, Ex H H1 → ∀ (Q : VK) (E : XK), RetV z H1 Q → sp vs H1 Q E) : SpV sp vs H z := fun H1 e Q q E => h H1 e Q E q
theorem spl_retL {sp : Sp} {vs xs : List V} (h : ∀ H1, Ex H H1 → ∀ (Q : VK) (E : XK), RetL xs H1 Q → sp vs H1 Q E) : SpL sp vs H xs := fun H1 e Q q E => h H1 e Q E q
end
end Hw

/-! Further rules of what evaluates to what: ranges as lists, repetition, extend, divmod, enumerate, nested lists. -/
namespace Hw
open PySem PySem.Spec PyProof.Rows L2 Evl
section
variable {K : PySem.W.Frag} {σ : L2.St} {H H' : Hp} {ta tb te tl : TE} {t : TT} {D : Ends} {tu tz : TS} {x v : V}
theorem rgV0 (n : Nat) : rgV 0 (n : Int) = nl (List.range n) := by
  unfold rgV nl
  simp
/-- list(range(n)) -/
theorem el_rg {n : Nat} (h : Ev te σ H (.int (n : Int))) (hn : n ≤ 100000) : EvL (tLstRg (tRg1 te)) σ H (nl (List.range n)) := fun H1 e Q q =>
  h H1 e _ fun H2 e2 => ⟨(n : Int), rfl, RgOk.of_le (by omega) (by omega) (by omega) (by omega), fun p hp => q p _ (fresh_back e2 hp) (e2.trans (Ex.new hp)) (by rw [upd_same, rgV0])⟩
/-- [x] * k -/
theorem el_rep1 {k : Nat} (h : EvL ta σ H [x]) (hb : ∀ H1, Ex H H1 → Ev tb σ H1 (.int (k : Int))) (hk : k ≤ 100000) : EvL (tOp rRep ta tb) σ H (List.replicate k x) := fun H1 e Q q =>
  h H1 e _ fun p H2 hp e2 h2 => hb H2 (e.trans e2) H2 (Ex.refl _) _ fun H3 e3 => by
    refine ⟨p, (k : Int), [x], rfl, rfl, e3 _ _ h2, by omega, by omega, ?_, fun p3 hp3 => ?_⟩
    · rw [Int.toNat_natCast]
      exact sz_of (show 1 * k ≤ 100000 by omega)
    · refine q p3 _ (fresh_back (e2.trans e3) hp3) ((e2.trans e3).trans (Ex.new hp3)) ?_
      rw [upd_same, Int.toNat_natCast]
      have : ∀ k : Nat, (List.replicate k [x]).flatten = List.replicate k x := fun k => by
        induction k with
        | zero => rfl
        | succ k ih => rw [List.replicate_succ, List.flatten_cons, ih, List.replicate_succ]; rfl
      rw [this]
/-- two new lists joined -/
theorem el_catLL {xs ys : List V} (ha : EvL ta σ H xs) (hb : EvL tb σ H ys) (hl : xs.length + ys.length ≤ 100000) : EvL (tOp rCat ta tb) σ H (xs ++ ys) := fun H1 e Q q =>
  ha H1 e _ fun p H2 hp e2 h2 => hb H2 (e.trans e2) _ fun p3 H3 hp3 e3 h3 => ⟨p, p3, xs, ys, rfl, rfl, e3 _ _ h2, h3, sz_of hl, fun p4 hp4 => q p4 _ (fresh_back (e2.trans e3) hp4) ((e2.trans e3).trans (Ex.new hp4)) upd_same⟩
/-- two lists joined, one of them given -/
theorem el_catVL {xs ys : List V} {p : Addr} (ha : Ev ta σ H (.ref p)) (hp : H p = some (.lst xs)) (hb : EvL tb σ H ys) (hl : xs.length + ys.length ≤ 100000) : EvL (tOp rCat ta tb) σ H (xs ++ ys) := fun H1 e Q q =>
  ha H1 e _ fun H2 e2 => hb H2 (e.trans e2) _ fun p3 H3 hp3 e3 h3 => ⟨p, p3, xs, ys, rfl, rfl, ((e.trans e2).trans e3) _ _ hp, h3, sz_of hl, fun p4 hp4 => q p4 _ (fresh_back (e2.trans e3) hp4) ((e2.trans e3).trans (Ex.new hp4)) upd_same⟩
/-- xs.extend(a new list) -/
theorem s_ext {l : Addr} {xs ys : List V} (hl : H l = some (.lst xs)) (ha : Ev ta σ H (.ref l)) (h : EvL te σ H ys) (hz : xs.length + ys.length ≤ 100000) (k : ∀ H1, Ex H H1 → D.nx σ (upd H1 l (.lst (xs ++ ys)))) :
    tDrop (tBM K "list" rExtend ta (tCons te tNil)) D σ H := ha H (Ex.refl H) _ fun H1 e1 =>
  ⟨Or.inl ⟨rfl, xs, sq_of (e1 l _ hl)⟩, h H1 e1 _ fun p H2 hp e2 h2 => ⟨l, p, xs, ys, rfl, rfl, e2 l _ (e1 l _ hl), h2, sz_of hz, k H2 (e1.trans e2)⟩⟩
/-- a, b = divmod(x, y) -/
theorem q_divmod {i j a b : Nat} {ta : TA} (h : EvA ta σ H [.int (a : Int), .int (b : Int)]) (hb : 0 < b ∧ b < 1073741824) (k : ∀ H1, Ex H H1 → tz D ((σ.set i (some (.int ((a / b : Nat) : Int)))).set j (some (.int ((a % b : Nat) : Int)))) H1) :
    tSeq (tAsg (tCB (fun xs H Q => ∃ i j, xs = [.int i, .int j] ∧ CDiv i j ∧ ∀ p, H p = none → Q (.ref p) (upd H p (.tup [.int (i / j), .int (i % j)]))) ta) (gTup K 2 (gCons (gName i) (gCons (gName j) gNil)))) tz D σ H :=
  h H (Ex.refl H) _ fun H1 e1 => ⟨(a : Int), (b : Int), rfl, ⟨by omega, by omega⟩, fun p hp => ⟨p, _, rfl, st_of upd_same, rfl, _, _, rfl, _, _, rfl, rfl, by
    rw [← Int.natCast_ediv, ← Int.natCast_emod]
    exact k _ (e1.trans (Ex.new hp))⟩⟩
/-- for i, x in enumerate(xs) -/
theorem s_forEn {a : Addr} {xs : List V} {tl : TE} {i j : Nat} (h : Ev tl σ H (.ref a)) (hx : SqL K H a xs) (Pv : Nat → L2.St → Hp → Prop) (h0 : ∀ H1, Ex H H1 → Pv 0 σ H1) (hl : ∀ m σ' H', m ≤ xs.length → Pv m σ' H' → SqL K H' a xs)
    (hs : ∀ m x σ' H' H2, xs[m]? = some x → Pv m σ' H' → Ex H' H2 → tu { D with nx := Pv (m + 1), ct := Pv (m + 1), bk := D.nx } ((σ'.set i (some (.int (m : Int)))).set j (some x)) H2) (hd : ∀ σ' H', Pv xs.length σ' H' → D.nx σ' H') :
    tFor (iEnum K (tCons tl tNil)) (gTup K 2 (gCons (gName i) (gCons (gName j) gNil))) tu D σ H :=
  h H (Ex.refl H) _ fun H1 e => ⟨a, xs, rfl, ex_l e hx, for_it (walk_enum (xs := xs)) Pv (h0 H1 e) hl (fun m v σ' H' H2 hm p y => by
    obtain ⟨T, x, z, rfl, hT, rfl, hx1, hz⟩ := y
    cases hx1
    exact ⟨T, _, rfl, st_of upd_same, rfl, _, _, rfl, _, _, rfl, rfl, hs m z σ' H' _ hz p (Ex.new hT)⟩) hd⟩
theorem q_forEn {a : Addr} {xs : List V} {tl : TE} {i j : Nat} (h : Ev tl σ H (.ref a)) (hx : SqL K H a xs) (Pv : Nat → L2.St → Hp → Prop) (h0 : ∀ H1, Ex H H1 → Pv 0 σ H1) (hl : ∀ m σ' H', m ≤ xs.length → Pv m σ' H' → SqL K H' a xs)
    (hs : ∀ m x σ' H' H2, xs[m]? = some x → Pv m σ' H' → Ex H' H2 → tu { D with nx := Pv (m + 1), ct := Pv (m + 1), bk := tz D } ((σ'.set i (some (.int (m : Int)))).set j (some x)) H2) (hd : ∀ σ' H', Pv xs.length σ' H' → tz D σ' H') :
    tSeq (tFor (iEnum K (tCons tl tNil)) (gTup K 2 (gCons (gName i) (gCons (gName j) gNil))) tu) tz D σ H := s_forEn (D := { D with nx := tz D }) h hx Pv h0 hl hs hd
/-- [.. for i, x in enumerate(xs) if ..] -/
theorem el_lcEn {a : Addr} {xs : List V} {tl : TE} {i j : Nat} {vs : List Nat} (f : Nat → Bool) (v : Nat → V) (h : Ev tl σ H (.ref a)) (hx : SqL K H a xs) (hz : xs.length ≤ 40000) (hw : ∀ x y, wipe (((wipe σ vs).set i (some x)).set j (some y)) vs = wipe σ vs)
    (ht : ∀ (m : Nat) (x : V) H1, Ex H H1 → xs[m]? = some x → EvT t (((wipe σ vs).set i (some (.int (m : Int)))).set j (some x)) H1 (f m)) (he : ∀ (m : Nat) (x : V) H1, Ex H H1 → xs[m]? = some x → f m = true → Ev te (((wipe σ vs).set i (some (.int (m : Int)))).set j (some x)) H1 (v m)) :
    EvL (tLc (iEnum K (tCons tl tNil)) (gTup K 2 (gCons (gName i) (gCons (gName j) gNil))) t te vs) σ H (given xs.length f v) := fun H0 e Q q => h H0 e _ fun H1 e1 => ⟨a, xs, rfl, ex_l (e.trans e1) hx, fun Dl hD =>
  lc_it (walk_enum (xs := xs)) (Cw H1 f v Dl) ⟨hD, Ex.new hD, upd_same⟩ (fun m H' _ p => ex_l ((e.trans e1).trans p.2.1) hx) (fun m y H' H2 hm p yy => by
    obtain ⟨T, x, z, rfl, hT, rfl, hx1, hz1⟩ := yy
    cases hx1
    have p2 : Cw H1 f v Dl m (upd H' T (.tup [.int (m : Nat), z])) := ⟨p.1, p.2.1.trans (Ex.new hT), by rw [upd_ne (ne_of_none p.2.2 hT)]; exact p.2.2⟩
    exact ⟨T, _, rfl, st_of upd_same, rfl, _, _, rfl, _, _, rfl, rfl, hw _ _, cw_turn p2 (by omega) (ht m z H1 (e.trans e1) hz1) (fun hf => he m z H1 (e.trans e1) hz1 hf)⟩)
    (fun H' p => q Dl H' (fresh_back e1 p.1) (e1.trans p.2.1) p.2.2)⟩
end
/-! ### lists of lists -/
/-- at p a list of the lists lss, all apart -/
structure Grp (H : Hp) (p : Addr) (as : List Addr) (lss : List (List Nat)) : Prop where
  top : H p = some (.lst (as.map V.ref))
  len : as.length = lss.length
  nd : ∀ (i j : Nat) (a : Addr), as[i]? = some a → as[j]? = some a → i = j
  off : p ∉ as
  it : ∀ (j : Nat) (a : Addr) (l : List Nat), as[j]? = some a → lss[j]? = some l → H a = some (.lst (nl l))
theorem Grp.ex {H H' : Hp} {p : Addr} {as : List Addr} {lss : List (List Nat)} (g : Grp H p as lss) (e : Ex H H') : Grp H' p as lss :=
  ⟨e _ _ g.top, g.len, g.nd, g.off, fun j a l h1 h2 => e _ _ (g.it j a l h1 h2)⟩
theorem Grp.addr {H : Hp} {p : Addr} {as : List Addr} {lss : List (List Nat)} (g : Grp H p as lss) {j : Nat} {l : List Nat} (h : lss[j]? = some l) : ∃ a, as[j]? = some a ∧ H a = some (.lst (nl l)) := by
  have hj := (List.getElem?_eq_some_iff.mp h).1
  have ha : as[j]? = some (as[j]'(by have := g.len; omega)) := List.getElem?_eq_getElem _
  exact ⟨_, ha, g.it j _ l ha h⟩
theorem Grp.addr' {H : Hp} {p : Addr} {as : List Addr} {lss : List (List Nat)} (g : Grp H p as lss) {j : Nat} {v : V} (h : (as.map V.ref)[j]? = some v) : ∃ a l, v = .ref a ∧ as[j]? = some a ∧ lss[j]? = some l ∧ H a = some (.lst (nl l)) := by
  rw [List.getElem?_map] at h
  cases e : as[j]? with
  | none => rw [e] at h; cases h
  | some a =>
    rw [e] at h
    cases h
    have hj := (List.getElem?_eq_some_iff.mp e).1
    have hl : lss[j]? = some (lss[j]'(by have := g.len; omega)) := List.getElem?_eq_getElem _
    exact ⟨a, _, rfl, rfl, hl, g.it j a _ e hl⟩
theorem Grp.dp {K : PySem.W.Frag} {H : Hp} {p : Addr} {as : List Addr} {lss : List (List Nat)} (g : Grp H p as lss) : Dp K H (.ref p) (.list (lss.map dN)) := by
  refine .lst (sq_of g.top) ?_
  have : ∀ (as : List Addr) (lss : List (List Nat)), as.length = lss.length → (∀ (j : Nat) (a : Addr) (l : List Nat), as[j]? = some a → lss[j]? = some l → H a = some (.lst (nl l))) → DpAll K H (as.map V.ref) (lss.map dN) := by
    intro as
    induction as with
    | nil =>
      intro lss hl _
      cases lss with
      | nil => exact .nil
      | cons _ _ => cases hl
    | cons a as ih =>
      intro lss hl h
      cases lss with
      | nil => cases hl
      | cons l lss =>
        exact .cons (dp_nl (sq_of (h 0 a l rfl rfl))) (ih lss (by simpa using hl) fun j b m h1 h2 => h (j + 1) b m h1 h2)
  exact this as lss g.len g.it
/-- what gives a new list of new lists -/
def EvG (te : TE) (σ : L2.St) (H : Hp) (lss : List (List Nat)) : Prop := ∀ H1, Ex H H1 → ∀ Q : VK, (∀ p as H2, H1 p = none → Ex H1 H2 → Grp H2 p as lss → Q (.ref p) H2) → te σ H1 Q
theorem EvG.mono {te : TE} {σ : L2.St} {H H' : Hp} {lss : List (List Nat)} (e : Ex H H') (h : EvG te σ H lss) : EvG te σ H' lss := fun H1 a Q q => h H1 (e.trans a) Q q
section
variable {K : PySem.W.Frag} {σ : L2.St} {H H' : Hp} {ta tb te tl : TE} {t : TT} {D : Ends} {tu tz : TS} {x v : V}
theorem et_yesX {σ : L2.St} {H : Hp} : EvT tYes σ H true := fun H1 _ _ q => q H1 (Ex.refl H1)
/-- one list more at the end of a group -/
theorem Grp.snoc {H H4 : Hp} {p a : Addr} {as : List Addr} {lss : List (List Nat)} {l : List Nat} (g : Grp H p as lss) (e : Ex H H4) (ha : H a = none) (h : H4 a = some (.lst (nl l))) : Grp (upd H4 p (.lst (as.map V.ref ++ [.ref a]))) p (as ++ [a]) (lss ++ [l]) := by
  have npa : a ≠ p := fun z => by rw [z, g.top] at ha; cases ha
  have nas : a ∉ as := fun m => by
    obtain ⟨j, hj⟩ := List.getElem?_of_mem m
    have hl : lss[j]? = some (lss[j]'(by have := g.len; have := (List.getElem?_eq_some_iff.mp hj).1; omega)) := List.getElem?_eq_getElem _
    have := g.it j a _ hj hl
    rw [ha] at this
    cases this
  refine ⟨by rw [upd_same]; simp, by rw [List.length_append, List.length_append, g.len]; rfl, ?_, ?_, fun j b m hj hm => ?_⟩
  · intro i j b hi hj
    have low : ∀ {i : Nat}, (as ++ [a])[i]? = some b → (i < as.length ∧ as[i]? = some b) ∨ (i = as.length ∧ b = a) := fun {i} h => by
      by_cases z : i < as.length
      · rw [List.getElem?_append_left z] at h
        exact .inl ⟨z, h⟩
      · have h1 := (List.getElem?_eq_some_iff.mp h).1
        rw [List.length_append, List.length_singleton] at h1
        have e2 : i = as.length := by omega
        rw [e2, List.getElem?_append_right (Nat.le_refl _), Nat.sub_self] at h
        exact .inr ⟨e2, (Option.some.inj h).symm⟩
    rcases low hi with ⟨h1, h2⟩ | ⟨h1, h2⟩
    · rcases low hj with ⟨h3, h4⟩ | ⟨h3, h4⟩
      · exact g.nd i j b h2 h4
      · rw [h4] at h2
        exact absurd (List.mem_of_getElem? h2) nas
    · rcases low hj with ⟨h3, h4⟩ | ⟨h3, h4⟩
      · rw [h2] at h4
        exact absurd (List.mem_of_getElem? h4) nas
      · omega
  · intro m
    rcases List.mem_append.mp m with m | m
    · exact g.off m
    · exact npa (List.mem_singleton.mp m).symm
  · by_cases z : j < as.length
    · rw [List.getElem?_append_left z] at hj
      rw [List.getElem?_append_left (by have := g.len; omega)] at hm
      have nb : b ≠ p := fun y => g.off (y ▸ List.mem_of_getElem? hj)
      rw [upd_ne nb]
      exact e _ _ (g.it j b m hj hm)
    · have hj1 := (List.getElem?_eq_some_iff.mp hj).1
      rw [List.length_append, List.length_singleton] at hj1
      have : j = as.length := by omega
      subst this
      rw [List.getElem?_append_right (Nat.le_refl _), Nat.sub_self] at hj
      rw [g.len, List.getElem?_append_right (Nat.le_refl _), Nat.sub_self] at hm
      cases hj
      cases hm
      rw [upd_ne npa]
      exact h
/-- [e for x in xs], each e a new list -/
theorem eg_lcL {a : Addr} {xs : List V} {j : Nat} {vs : List Nat} {lss : List (List Nat)} (h : Ev tl σ H (.ref a)) (hx : SqL K H a xs) (hlen : xs.length = lss.length) (hz : xs.length ≤ 40000) (hw : ∀ x, wipe ((wipe σ vs).set j (some x)) vs = wipe σ vs)
    (he : ∀ (i : Nat) (x : V) (l : List Nat) H1, Ex H H1 → xs[i]? = some x → lss[i]? = some l → EvL te ((wipe σ vs).set j (some x)) H1 (nl l)) : EvG (tLc (iList K tl) (gName j) tYes te vs) σ H lss := fun H0 e Q q => h H0 e _ fun H1 e1 => ⟨a, rfl, ⟨xs, ex_l (e.trans e1) hx⟩, fun Dl hD => by
  refine lc_list (xs := xs) (fun i H' => Ex H1 H' ∧ ∃ as, Grp H' Dl as (lss.take i)) ⟨Ex.new hD, [], ?_⟩ (fun i H' _ p => ex_l ((e.trans e1).trans p.1) hx) (fun i x H' hi p => ⟨hw x, ?_⟩) fun H' p => ?_
  · refine ⟨upd_same, rfl, fun i j a h1 _ => (by cases h1), by simp, fun j a l h1 _ => by cases h1⟩
  · obtain ⟨p1, as, g⟩ := p
    have hi1 := (List.getElem?_eq_some_iff.mp hi).1
    have hl : lss[i]? = some (lss[i]'(by omega)) := List.getElem?_eq_getElem _
    show te _ H' _
    refine he i x _ H' ((e.trans e1).trans p1) hi hl H' (Ex.refl _) _ fun p2 H4 hp2 e4 h4 => ?_
    have gl : as.length = i := by
      have := g.len
      rw [List.length_take] at this
      omega
    refine ⟨as.map V.ref, e4 _ _ g.top, by rw [List.length_map]; exact sz_lt (by omega), (p1.trans e4).mut hD, as ++ [p2], ?_⟩
    rw [List.take_add_one, hl]
    exact g.snoc e4 hp2 h4
  · obtain ⟨p1, as, g⟩ := p
    rw [hlen, List.take_length] at g
    exact q Dl as H' (fresh_back e1 hD) (e1.trans p1) g⟩
/-- group[i] -/
theorem rv_grp {p : Addr} {as : List Addr} {lss : List (List Nat)} {i : Nat} {a : Addr} (g : Grp H p as lss) (h : as[i]? = some a) : RV (rIxL K) (.ref p) (.int (i : Int)) H (.ref a) :=
  rv_ixL (sq_of g.top) (atI_nat (by rw [List.getElem?_map, h]; rfl))
theorem q_asgG {i : Nat} {lss : List (List Nat)} (h : EvG te σ H lss) (k : ∀ p as H1, H p = none → Ex H H1 → Grp H1 p as lss → tz D (σ.set i (some (.ref p))) H1) : tSeq (tAsg te (gName i)) tz D σ H := h H (Ex.refl H) _ k
/-- max of a list of numbers -/
theorem rc_max {a : Addr} {ns : List Nat} {m : Nat} (hs : SqL K H a (nl ns)) (h0 : 0 < ns.length) (hm : ∀ k ∈ ns, (∀ y ∈ ns, y ≤ k) → k = m) : RC (rMax K) [.ref a] H (.int (m : Int)) :=
  rc_of fun H1 e Q q => by
    rw [nl_il] at hs
    refine ⟨a, ns.map fun (n : Nat) => (n : Int), rfl, ex_l e hs, by rw [List.length_map]; exact h0, fun k hk hu => ?_⟩
    obtain ⟨y, hy, rfl⟩ := List.mem_map.mp hk
    have := hm y hy fun z hz => by
      have := hu (z : Int) (List.mem_map.mpr ⟨z, hz, rfl⟩)
      omega
    rw [this]
    exact q
end
/-- group[j] = a new list -/
theorem Grp.set {H : Hp} {p b : Addr} {as : List Addr} {lss : List (List Nat)} {l : List Nat} {j : Nat} (g : Grp H p as lss) (hb : H b = none) : Grp (upd (upd H b (.lst (nl l))) p (.lst ((as.map V.ref).set j (.ref b)))) p (as.set j b) (lss.set j l) := by
  have npb : b ≠ p := fun z => by rw [z, g.top] at hb; cases hb
  have nas : b ∉ as := fun m => by
    obtain ⟨i, hi⟩ := List.getElem?_of_mem m
    have hl : lss[i]? = some (lss[i]'(by have := g.len; have := (List.getElem?_eq_some_iff.mp hi).1; omega)) := List.getElem?_eq_getElem _
    have := g.it i b _ hi hl
    rw [hb] at this
    cases this
  have at_ : ∀ {i : Nat} {a : Addr}, (as.set j b)[i]? = some a → (i = j ∧ a = b) ∨ (i ≠ j ∧ as[i]? = some a) := fun {i a} h => by
    rw [List.getElem?_set] at h
    by_cases z : j = i
    · rw [if_pos z] at h
      split at h
      · exact .inl ⟨z.symm, (Option.some.inj h).symm⟩
      · cases h
    · rw [if_neg z] at h
      exact .inr ⟨fun y => z y.symm, h⟩
  refine ⟨by rw [upd_same, List.map_set], by rw [List.length_set, List.length_set, g.len], fun i k a hi hk => ?_, fun m => ?_, fun i a m hi hm => ?_⟩
  · rcases at_ hi with ⟨h1, h2⟩ | ⟨h1, h2⟩
    · rcases at_ hk with ⟨h3, h4⟩ | ⟨h3, h4⟩
      · omega
      · rw [h2] at h4
        exact absurd (List.mem_of_getElem? h4) nas
    · rcases at_ hk with ⟨h3, h4⟩ | ⟨h3, h4⟩
      · rw [h4] at h2
        exact absurd (List.mem_of_getElem? h2) nas
      · exact g.nd i k a h2 h4
  · obtain ⟨i, hi⟩ := List.getElem?_of_mem m
    rcases at_ hi with ⟨h1, h2⟩ | ⟨h1, h2⟩
    · exact npb h2.symm
    · exact g.off (List.mem_of_getElem? h2)
  · rw [List.getElem?_set] at hm
    rcases at_ hi with ⟨h1, h2⟩ | ⟨h1, h2⟩
    · subst h1 h2
      rw [if_pos rfl] at hm
      split at hm
      · cases hm
        rw [upd_ne npb, upd_same]
      · cases hm
    · rw [if_neg (Ne.symm h1)] at hm
      have na : a ≠ p := fun z => g.off (z ▸ List.mem_of_getElem? h2)
      have nb : a ≠ b := fun z => nas (z ▸ List.mem_of_getElem? h2)
      rw [upd_ne na, upd_ne nb]
      exact g.it i a m h2 hm
/-- group[j] itself is changed -/
theorem Grp.upd {H : Hp} {p a : Addr} {as : List Addr} {lss : List (List Nat)} {l : List Nat} {j : Nat} (g : Grp H p as lss) (ha : as[j]? = some a) : Grp (upd H a (.lst (nl l))) p as (lss.set j l) := by
  have nap : p ≠ a := fun z => g.off (z ▸ List.mem_of_getElem? ha)
  refine ⟨by rw [upd_ne nap]; exact g.top, by rw [List.length_set, g.len], g.nd, g.off, fun i b m hi hm => ?_⟩
  rw [List.getElem?_set] at hm
  by_cases z : j = i
  · subst z
    rw [if_pos rfl] at hm
    rw [ha] at hi
    cases hi
    split at hm
    · cases hm
      exact upd_same
    · cases hm
  · rw [if_neg z] at hm
    have nb : b ≠ a := fun y => z (g.nd j i a ha (y ▸ hi))
    rw [upd_ne nb]
    exact g.it i b m hi hm
section
variable {K : PySem.W.Frag} {σ : L2.St} {H : Hp} {ta tb te t1 t2 t3 : TE} {D : Ends} {tz : TS} {x : V}
/-- [[..], [..], [..]] -/
theorem eg_lst3 {l1 l2 l3 : List Nat} (h1 : EvL t1 σ H (nl l1)) (h2 : EvL t2 σ H (nl l2)) (h3 : EvL t3 σ H (nl l3)) : EvG (tLst (tCons t1 (tCons t2 (tCons t3 tNil)))) σ H [l1, l2, l3] := fun H1 e Q q =>
  h1 H1 e _ fun p1 H2 hp1 e2 g1 => h2 H2 (e.trans e2) _ fun p2 H3 hp2 e3 g2 => h3 H3 ((e.trans e2).trans e3) _ fun p3 H4 hp3 e4 g3 => ⟨sz_of (show 3 ≤ 100000 by decide), fun p hp => by
    have n12 : p1 ≠ p2 := ne_of_none g1 hp2
    have n13 : p1 ≠ p3 := ne_of_none (e3 _ _ g1) hp3
    have n23 : p2 ≠ p3 := ne_of_none g2 hp3
    have m1 := e4 _ _ (e3 _ _ g1)
    have m2 := e4 _ _ g2
    have e14 := (e2.trans e3).trans e4
    refine q p [p1, p2, p3] _ (fresh_back e14 hp) (e14.trans (Ex.new hp)) ⟨upd_same, rfl, fun i j a hi hj => ?_, fun m => ?_, fun j a l hj hl => ?_⟩
    · match i, j with
      | 0, 0 => rfl
      | 1, 1 => rfl
      | 2, 2 => rfl
      | 0, 1 => cases hi; cases hj; exact absurd rfl n12
      | 0, 2 => cases hi; cases hj; exact absurd rfl n13
      | 1, 0 => cases hi; cases hj; exact absurd rfl n12
      | 1, 2 => cases hi; cases hj; exact absurd rfl n23
      | 2, 0 => cases hi; cases hj; exact absurd rfl n13
      | 2, 1 => cases hi; cases hj; exact absurd rfl n23
      | k + 3, _ => simp at hi
      | 0, k + 3 => simp at hj
      | 1, k + 3 => simp at hj
      | 2, k + 3 => simp at hj
    · simp only [List.mem_cons, List.not_mem_nil, or_false] at m
      rcases m with m | m | m
      · rw [m, m1] at hp; cases hp
      · rw [m, m2] at hp; cases hp
      · rw [m, g3] at hp; cases hp
    · match j with
      | 0 => cases hj; cases hl; rw [upd_ne (ne_of_none m1 hp)]; exact m1
      | 1 => cases hj; cases hl; rw [upd_ne (ne_of_none m2 hp)]; exact m2
      | 2 => cases hj; cases hl; rw [upd_ne (ne_of_none g3 hp)]; exact g3
      | k + 3 => simp at hj⟩
theorem el_callG {sp : Sp} {E : XK} {ys : List V} {lss : List (List Nat)} (h : EvG te σ H lss) (hs : ∀ p as H1, Grp H1 p as lss → Ex H H1 → SpL sp [.ref p] H1 ys) : EvL (tCall sp [] E (tCons te tNil)) σ H ys := fun H1 e Q q =>
  h H1 e _ fun p as H2 hp e2 g => hs p as H2 g (e.trans e2) H2 (Ex.refl _) Q (fun r H3 hr e3 h3 => q r H3 (fresh_back e2 hr) (e2.trans e3) h3) E
theorem el_callN0 {m : Nat} {sp : Sp} {gV : List V → List V → List V} {E : XK} {tk : TA} {zs ys : List V} (h : EvA tk σ H zs) (hm : zs.length = m) (hs : SpL sp (gV [] zs) H ys) : EvL (tCallN0 m sp gV E tk) σ H ys :=
  fun H1 e Q q => h H1 e _ fun H2 e2 => ⟨hm, hs H2 (e.trans e2) Q (fun p H3 hp e3 h3 => q p H3 (fresh_back e2 hp) (e2.trans e3) h3) E⟩
/-- a, b = e, f -/
theorem q_par2 {i j : Nat} {R : V → Hp → Prop} (ha : Ev ta σ H x) (hb : ∀ H1, Ex H H1 → ∀ Q : VK, (∀ y H2, Ex H1 H2 → R y H2 → Q y H2) → tb σ H1 Q) (k : ∀ y H2, Ex H H2 → R y H2 → tz D ((σ.set i (some x)).set j (some y)) H2) : tSeq (tPar i j (tCons ta (tCons tb tNil))) tz D σ H :=
  ha H (Ex.refl H) _ fun H1 e1 => hb H1 e1 _ fun y H2 e2 r => ⟨x, y, rfl, k y H2 (e1.trans e2) r⟩
/-- e where the value is new: an assignment -/
theorem s_asgO {i : Nat} {R : V → Hp → Prop} (h : ∀ H1, Ex H H1 → ∀ Q : VK, (∀ y H2, Ex H1 H2 → R y H2 → Q y H2) → te σ H1 Q) (k : ∀ y H1, Ex H H1 → R y H1 → D.nx (σ.set i (some y)) H1) : tAsg te (gName i) D σ H := h H (Ex.refl H) _ k
end
theorem sum_set : ∀ (l : List Nat) (i y x : Nat), l[i]? = some x → (l.set i y).sum + x = l.sum + y
  | [], i, y, x, h => by cases h
  | a :: l, 0, y, x, h => by
    cases h
    simp only [List.set_cons_zero, List.sum_cons]
    omega
  | a :: l, i + 1, y, x, h => by
    have := sum_set l i y x (by simpa using h)
    simp only [List.set_cons_succ, List.sum_cons]
    omega
theorem nl_set (l : List Nat) (i y : Nat) : (nl l).set i (.int (y : Int)) = nl (l.set i y) := by
  unfold nl
  rw [List.map_set]
end Hw

/-! Defs that let exceptions out, own exceptions with fields, several clauses with a name. -/
namespace Hw
open PySem PySem.Spec PyProof.Rows L2 Evl

/-! ### several clauses «except C as n» -/
abbrev Clause : Type := Value × Nat × (Addr → Value → Option Addr → TS)
/-- the ends of a suite: the name's slot is emptied -/
def unset (i : Nat) (D : Ends) : Ends := { nx := fun z G => D.nx (z.set i none) G, rt := D.rt, bk := fun z G => D.bk (z.set i none) G, ct := fun z G => D.ct (z.set i none) G }
def wClauses (K : PySem.W.Frag) (Wo : WX) (D : Ends) : List Clause → WX
  | [] => Wo
  | p :: r => fun cls d z G => ∃ b, PySem.W.exmOne K cls p.1 = some b ∧ (b = true → ∀ a, G a = none → p.2.2 a cls d (unset p.2.1 D) (z.set p.2.1 (some (.ref a))) G) ∧ (b = false → wClauses K Wo D r cls d z G)
inductive ClausesOk (X : Cx) : List ExceptHandler → List Clause → Prop
  | nil : ClausesOk X [] []
  | cons {x n : Str} {c : Value} {i : Nat} {ts : Addr → Value → Option Addr → TS} {st : Stmt} {sts : List Stmt} {p1 p2 : Pos} {hs : List ExceptHandler} {l : List Clause} (hc : Names X x c) (hi : X.N[i]? = some n) (hk : X.env.kindOf n = some .local)
      (suite : ∀ (a : Addr) (ob : Obj) (cls : Value) (d : Option Addr) (pn : List (Addr × Obj)), Zc cls d ob → (∃ vs, ob.data = .fields vs) → PSs (X.suite a ((a, ob) :: pn)) (st :: sts) (ts a cls d)) (r : ClausesOk X hs l) :
      ClausesOk X (.ExceptHandler (some (.Name x p1)) (some n) (st :: sts) p2 :: hs) ((c, i, ts) :: l)
section
variable {X : Cx}
theorem apart_frames {B h : Heap} {l : List Env} {a : Addr} {ob : Obj} {vs : Array Value} (ff : h.FunFrames B l) (e : h.get? a = some ob) (dd : ob.data = .fields vs) : a ∉ frs l := fun m => by
  obtain ⟨_, u, e2, z⟩ := ff.mem m
  have := e.symm.trans e2
  cases this
  exact z _ dd
theorem clauses_run {hs : List ExceptHandler} {l : List Clause} (ok : ClausesOk X hs l) {pins : List (Addr × Obj)} {D : Ends} {Wo : WX} (hst : X.stack = X.env :: X.outer) (hf : X.env.frame = some X.env.locals) (hN : X.N.Nodup) (tk : Takes X Wo)
    {a : Addr} {B : Heap} {cls : Value} {d : Option Addr} {sI s' : Shared} {h : Heap} {z : L2.St} {G : Hp} (J : Inv X pins z G sI) (nb : ∀ b o, sI.heap.get? b = some o → b ∉ frs X.stack → B.get? b = some o) (up : sI.heap.UpToSlots h)
    (fl : HandSPX.FlyingZ B (X.env :: X.outer) a (Zc cls d) h) (na : G a = none) (os : s'.os = sI.os) (ag : AllBare s'.gens) (ok0 : X.Ok) :
    wClauses X.K Wo D l cls d z G → wpAny (model X.prog X.w) X.A (handleBy (.ref a) X.env hs) (SP X pins D) X.xe { s' with heap := h } := by
  have Jh : Inv X pins z G { s' with heap := h } := J.landed nb fl.1 up os ag
  obtain ⟨ob, vs, hget, hz, hd⟩ := fl.there
  have nfr := apart_frames fl.2.2.1 hget hd
  have nL : a ≠ X.env.locals := fun y => nfr (List.mem_filterMap.mpr ⟨X.env, List.mem_cons_self, by rw [hf, y]⟩)
  have nF : a ∉ X.fs := fun m => by
    obtain ⟨e, he, q⟩ := List.mem_filterMap.mp m
    exact nfr (List.mem_filterMap.mpr ⟨e, List.mem_cons_of_mem _ he, q⟩)
  have Sh := Jh.suite hget hd na nL nF
  induction ok with
  | nil =>
    intro w
    refine wpAny_handleBy_nil ?_
    have keep := fl
    obtain ⟨_, _, _, o2, v2, T, oT, t2, g1, g2, g3, g4, g5⟩ := keep
    unfold PySem.passOn
    refine wpAny_bind (wpAny_field g1 g3 g4 ?_)
    rw [if_neg (show ¬ ((Value.ref T == Value.none) = true) by simp)]
    have last : wpAny (model X.prog X.w) X.A (setFlight (.ref a) X.env.frame) (fun _ s4 => wpAny (model X.prog X.w) X.A (throw (.ref a) : Sem Flow) (SP X pins D) X.xe s4) X.xe { s' with heap := h } := by
      rw [hf]
      refine HandSPX.setFlight_upZ fl fun h4 up4 sl4 => wpAny_throw (tk _ _ ?_)
      exact ⟨a, B, sI, pins, z, G, cls, d, rfl, J, nb, up.trans sl4, .inr (.inr (by rw [hst]; exact up4)), na, os, ag, w⟩
    first
      | exact wpAny_bind (wpAny_pure (wpAny_bind last))
      | exact wpAny_bind last
  | @cons x n c i ts st sts p1 p2 hs2 l2 hc hi hk suite r ih =>
    rintro ⟨b, hb, yes, no⟩
    refine wpAny_handleBy_cons (codeAny_handlers_test ?_) (by intro q; cases q)
    have lt : PySem.W.Looks (model X.prog X.w) h (typeOf (.ref a)) cls := fun A Q E s k q => wpAny_typeOf_ref (k _ _ hget) (by rw [hz.1]; exact q)
    have lm := PySem.W.exm_one (M := model X.prog X.w) Jh.kIn lt hb
    have name : ∀ {Q : Value → Shared → Prop} {E : Value → Shared → Prop}, Q c { s' with heap := h } → wpAny (model X.prog X.w) (X.A.mark (some (.ref a))) (eval (.Name x p1) X.env) Q E { s' with heap := h } := by
      intro Q E q
      rcases hc with ⟨y1, y2, y3 | ⟨y3, y4, y5⟩⟩
      · exact ld_glob (X := X.suite a ((a, ob) :: (X.pn ++ pins))) Sh y1 y3 q y2
      · exact ld_blt (X := X.suite a ((a, ob) :: (X.pn ++ pins))) Sh y1 y3 y4 q y5 y2
    refine name (lm.here ?_)
    cases b with
    | false => exact ih (no rfl)
    | true =>
      refine codeAny_handlers_suite_as (HandSPX.lands_againZ fl fun h4 fl4 up4 => ?_)
      have J4 : Inv X pins z G { s' with heap := h4 } := J.landed nb fl4.1 (up.trans up4) os ag
      obtain ⟨o4, v4, e4, z4, d4⟩ := fl4.there
      have S4 := J4.suite e4 d4 na nL nF
      refine store_ok (X := X.suite a ((a, o4) :: (X.pn ++ pins))) (v := .ref a) S4 hN hi (.inl hk) rfl (fun s5 S5 => ?_) (.inr hk)
      have run := (suite a o4 cls d (X.pn ++ pins) z4 ⟨_, d4⟩).run [] s5 _ G _ S5 (yes rfl a na)
      refine wpAny_mono run (fun f s6 hsp => ?_) fun _ _ y => False.elim y
      have gone : ∀ {z6 : L2.St} {G6 : Hp} {Q : Shared → Prop}, Inv (X.suite a ((a, o4) :: (X.pn ++ pins))) [] z6 G6 s6 → (∀ s7, Inv X pins (z6.set i none) G6 s7 → Q s7) →
          wpAny (model X.prog X.w) X.A (do bindName X.env n .none; unbindBehindTheSuite X.env n p2) (fun _ s7 => Q s7) X.xe s6 := fun S6 hq => gone_ok (S6.unsuite ok0) hN hi hk hq
      cases f with
      | ret u =>
        obtain ⟨v6, z6, G6, S6, r6, q6⟩ := hsp
        exact gone S6 fun s7 J7 => ⟨_, _, _, J7, r6, q6⟩
      | _ =>
        obtain ⟨z6, G6, S6, q6⟩ := hsp
        exact gone S6 fun s7 J7 => ⟨_, _, J7, q6⟩
/-- try: body / except C1 as n1: .. / except C2 as n2: .. -/
theorem ps_try_clauses {body : List Stmt} {h0 : ExceptHandler} {hs : List ExceptHandler} {l : List Clause} {tb : WX → TS} {Wo : WX} {pos : Pos} (hst : X.stack = X.env :: X.outer) (hf : X.env.frame = some X.env.locals) (hN : X.N.Nodup) (tk : Takes X Wo)
    (hb : ∀ (W : WX) (pn : List (Addr × Obj)) (xe : Value → Shared → Prop), Takes (X.tr pn xe) W → PassesOwn (model X.prog X.w) X.A X.env xe → PSs (X.tr pn xe) body (tb W)) (ok : ClausesOk X (h0 :: hs) l) :
    PS X (.Try body (h0 :: hs) [] [] pos) (fun D z G => tb (wClauses X.K Wo D l) D z G) := by
  refine ⟨fun pins s z G D I h => ?_⟩
  have ok0 := I.ok
  refine wpAny_Try_except ?_
  have run := (hb (wClauses X.K Wo D l) (X.pn ++ pins) (fun e s₁ => wpAny (model X.prog X.w) X.A (noteFrame e X.env) (fun _ s₂ => wpAny (model X.prog X.w) X.A (setFlight e none) (fun _ s₃ =>
    wpAny (model X.prog X.w) X.A (handleBy e X.env (h0 :: hs)) (SP X pins D) X.xe s₃) X.xe s₂) X.xe s₁) (fun u s' xx => ?_) PassesOwn.looking).run [] s z G D (I.toTry _) h
  · refine wpAny_mono run (fun f s1 q => ?_) fun e s1 he => he
    cases f with
    | next =>
      obtain ⟨z1, G1, J, q⟩ := q
      exact wpAny_execs_nil ⟨z1, G1, J.ofTry ok0, q⟩
    | ret u =>
      obtain ⟨v, z1, G1, J, r, q⟩ := q
      exact ⟨v, z1, G1, J.ofTry ok0, r, q⟩
    | _ =>
      obtain ⟨z1, G1, J, q⟩ := q
      exact ⟨z1, G1, J.ofTry ok0, q⟩
  · obtain ⟨a, B, sI, pins', z1, G1, cls, d, rfl, J0, nb, up, sky, na, os, ag, w⟩ := xx
    have J : Inv X pins z1 G1 sI := J0.ofTry ok0
    have sky2 : Sky B (X.env :: X.outer) a (Zc cls d) X.env.locals s'.heap := by rw [← hst]; exact sky
    have hfr : X.A.frames = some (X.env :: X.outer) := by rw [ok0.frames, hst]
    exact Sky.land Zc.steady hfr hf sky2 fun h3 fl3 up3 => clauses_run ok hst hf hN tk J nb (up.trans up3) fl3 na os ag J.ok w
end

/-! ### calls that may raise -/
section
variable {X : Cx} {k : Nat} {ps : List Str} {sp : Sp} {x : Str} {p pos : Pos} {e : Expr} {es : List Expr} {t : TA} {W : WX}
theorem pe_ccS (tk : Takes X W) (c : Callee X.prog X.w X.K X.mg X.base (L2.CX X.prog X.w) k x ps [] sp) (hr : Room k X.A) (hg : Gl X x) (ha : PA X (e :: es) t) (hdb : (x == ("__debug__" : Str)) = false := by decide)
    (he : starEach (e :: es) X.env = (false, eval e X.env) :: starEach es X.env := by rfl) (hpl : (backTo pos (starEach es X.env)).any (·.1) = false := by rfl) : PE X (.Call (.Name x p) (e :: es) [] pos) (tCallS sp (WE W) t) := by
  obtain ⟨fd, ds, F, b, hv⟩ := c.ex
  cases hv
  exact pe_callS F hr hg c.g c.kp b (fun σ => passAt tk σ) ha hdb he hpl
end
section
variable {P : Program} {w : World} {K : PySem.W.Frag} {mg : Str → Option Value} {base : Heap}
variable {k : Nat} {x : Str} {ps : List Str} {sp : Sp} {N : List Str} {pa : Arguments} {bo : List Stmt} {sc : Scope}
abbrev BodyOkX (P : Program) (w : World) (K : PySem.W.Frag) (mg : Str → Option Value) (base : Heap) (N : List Str) (x : Str) (sc : Scope) (bo : List Stmt) (k : Nat) (sp : Sp) : Prop :=
  ∀ (cdv : Value) (f : Addr) (A : Around) (outer : List Env) (s : Shared) (H : Hp) (vs : List V) (Q : VK) (E : XK),
    Room k (A.deeper (envOfC x sc s.heap.objs.size f cdv)) → sp vs H Q E →
      ∃ t, PSs (cxOf (L2.CX P w) P w K mg base N x sc f cdv A outer s H E) bo t ∧ t { nx := fun _ H' => Q .non H', rt := Q } (start N vs) H
theorem callee_ofX (hg : mg x = some (.ref (He.ga K x))) (hF : ∃ fd, FunD K x x pa bo sc [] [] (He.ga K x) fd) (S : FnScope N ps sc)
    (hb : ∀ (kV doc pm : Value) (an : Option Addr) (cdv ct : Value) (us : List Value), us.length = ps.length →
      bindArgs (PySem.W.fnOf x x pa bo sc .none kV doc pm an cdv ct) ⟨us, []⟩ = pure (ps.zip us))
    (len : ∀ vs H Q E, sp vs H Q E → vs.length = ps.length) (body : BodyOkX P w K mg base N x sc bo k sp) :
    Callee P w K mg base (L2.CX P w) (k + 1) x ps [] sp := by
  obtain ⟨fd, F⟩ := hF
  exact ⟨⟨fd, [], F.ok S len fun cdv A outer s H vs Q E hr h => body cdv _ A outer s H vs Q E hr h, F.bindsN hb, .nil⟩, hg, F.kp⟩
theorem kcallee_ofX {ks : List Str} {g : List Value → List Value → List Value} {gV : List V → List V → List V}
    (hF : ∃ fd, FunD K x x pa bo sc [] [] (He.ga K x) fd) (S : FnScope N ps sc) (hg : mg x = some (.ref (He.ga K x)))
    (hb : ∀ (kV doc pm : Value) (an : Option Addr) (cdv ct : Value) (us ws : List Value), us.length = 0 → ws.length = ks.length →
      bindArgs (PySem.W.fnOf x x pa bo sc .none kV doc pm an cdv ct) ⟨us, ks.zip ws⟩ = pure (ps.zip (g us ws)))
    (hv : ∀ {vs : List V} {us : List Value} {zs : List V} {ws : List Value}, Vals vs us → Vals zs ws → Vals (gV vs zs) (g us ws))
    (len : ∀ vs H Q E, sp vs H Q E → vs.length = ps.length) (body : BodyOkX P w K mg base N x sc bo k sp) :
    KCallee P w K mg base (L2.CX P w) (k + 1) x ps ks gV sp := by
  obtain ⟨fd, F⟩ := hF
  have kp := F.kp
  refine ⟨⟨fd, g, F.ok S len fun cdv A outer s H vs Q E hr h => body cdv _ A outer s H vs Q E hr h, ?_⟩, hg, kp⟩
  obtain ⟨oc, od, dV, kV, doc, pm, an, cdv, ct, osl, rfl, lk, hcd, hD, hK⟩ := F.ex
  rcases hD with ⟨_, rfl⟩ | ⟨e, _⟩
  · exact ⟨fun s us ws _ l1 l2 => .of_eq (hb kV doc pm an cdv ct us ws l1 l2), fun r1 r2 => hv r1 r2⟩
  · exact absurd rfl e
end
section
variable {K : PySem.W.Frag} {σ : L2.St} {H : Hp} {ta : TA} {z : V} {vs : List V}
/-- a call that may raise, where it returns -/
theorem ev_callS {sp : Sp} {E : L2.St → XK} (h : EvA ta σ H vs) (hs : SpV sp vs H z) : Ev (tCallS sp E ta) σ H z := fun H1 e Q q =>
  h H1 e _ fun H2 e2 => hs H2 (e.trans e2) Q (fun H3 e3 => q H3 (e2.trans e3)) (E σ)
theorem el_callS {sp : Sp} {E : L2.St → XK} {xs : List V} (h : EvA ta σ H vs) (hs : SpL sp vs H xs) : EvL (tCallS sp E ta) σ H xs := fun H1 e Q q =>
  h H1 e _ fun H2 e2 => hs H2 (e.trans e2) Q (fun p H3 hp e3 h3 => q p H3 (fresh_back e2 hp) (e2.trans e3) h3) (E σ)
end

/-! ### own exceptions with fields -/
def oexB (K : PySem.W.Frag) (C : Addr) : Bool := (match K.lookup C with
  | some ⟨.type "type", _, .cls cd, sl⟩ => (match cd.mro, sl.toList with
    | .ref C1 :: bm, [_, _, _, _, some (.builtin n), _] => decide (C1 = C) && (decide (n = "ValueError.__new__") && (!cd.hasDel && (cd.hasDict && PySem.HandSPX.refsVE bm)))
    | _, _ => false)
  | _ => false) && (decide (PySem.W.findIn K (.ref C) "__setattr__" = some (some (.builtin "object.__setattr__"))) && (decide (PySem.W.subIn K (.ref C) (.type "BaseException") = some true) && (decide (PySem.W.typeIn K (.ref C) = some (.type "type")) && (PySem.W.keepIn K (.ref C) && xfB K C))))
theorem oexB_ok {K : PySem.W.Frag} {C : Addr} (h : oexB K C = true) : OexC K C ∧ XfC K C := by
  unfold oexB at h
  obtain ⟨h1, h⟩ := Bool.and_eq_true_iff.mp h
  obtain ⟨h2, h⟩ := Bool.and_eq_true_iff.mp h
  obtain ⟨h3, h⟩ := Bool.and_eq_true_iff.mp h
  obtain ⟨h4, h⟩ := Bool.and_eq_true_iff.mp h
  obtain ⟨h5, h6⟩ := Bool.and_eq_true_iff.mp h
  refine ⟨⟨?_, of_decide_eq_true h2, of_decide_eq_true h3, of_decide_eq_true h4, h5⟩, xfB_ok h6⟩
  split at h1
  · rename_i dd cd sl hl
    split at h1
    · rename_i C1 bm k0 k1 k2 k3 n k5 hm hs
      simp only [Bool.and_eq_true, decide_eq_true_eq, Bool.not_eq_true'] at h1
      obtain ⟨rfl, rfl, hdel, hdict, hv⟩ := h1
      obtain ⟨nm, bs, mro, ns, qn, hd, sn, sub, ab, col, del⟩ := cd
      dsimp only at hm hdel hdict
      subst hm hdel hdict
      have hsl : sl = #[k0, k1, k2, k3, some (.builtin "ValueError.__new__"), k5] := by
        obtain ⟨l⟩ := sl
        simp only at hs
        rw [hs]
      subst hsl
      exact ⟨nm, qn, ns, bs, bm, sn, sub, ab, col, dd, k0, k1, k2, k3, k5, hl, hv⟩
    · cases h1
  · cases h1
/-- C.__init__(self, ..): the fields, in order -/
def spInit (C : Addr) (fs : List Str) : Sp := fun vs H Q _ => ∃ (a : Addr) (args : List V), vs = .ref a :: args ∧ args.length = fs.length ∧ H a = some (exo a C none) ∧
  ∀ (d : Addr) (H' : Hp), H d = none → d ≠ a → H' a = some (exo a C (some d)) → H' d = some (exd d ((fs.zip args).reverse)) → (∀ x o, x ≠ a → H x = some o → H' x = some o) → Q .non H'
theorem mk_fields {C : Addr} {fs : List Str} {σ : L2.St} {H : Hp} {ta : TA} {args : List V} {Q : XK} (h : EvA ta σ H args) (hl : args.length = fs.length) (hz : args.length ≤ 1000)
    (q : ∀ (d : Addr) (H' : Hp), H d = none → Ex H H' → H' d = some (.xd ((fs.zip args).reverse)) → Q (.ref C) (some d) H') : tMkO C (spInit C fs) [] ta σ H Q :=
  h H (Ex.refl H) _ fun H1 e1 => ⟨hz, fun a ha => ⟨a, args ++ [], rfl, by rw [List.append_nil]; exact hl, upd_same, fun d H' hd hda h1 h2 h3 => by
    rw [upd_ne hda] at hd
    refine ⟨rfl, d, _, h1, h2, hd, ?_⟩
    rw [List.append_nil]
    refine q d _ (fresh_back e1 hd) (fun x o hx => ?_) upd_same
    have h4 := e1 x o hx
    have n1 : x ≠ a := ne_of_none h4 ha
    rw [upd_ne (ne_of_none h4 hd), del_ne n1]
    exact h3 x o n1 (by rw [upd_ne n1]; exact h4)⟩⟩
/-- the caught exception's field -/
theorem ev_xf {a : Addr} {cls : Value} {d : Addr} {C : Addr} {f : Str} {te : TE} {σ : L2.St} {H : Hp} {fs : List (Str × V)} {v : V} (h : Ev te σ H (.ref a)) (hc : cls = .ref C) (hd : H d = some (.xd fs)) (hf : fs.lookup f = some v) : Ev (tXf a cls (some d) C f te) σ H v := fun H1 e Q q =>
  h H1 e _ fun H2 e2 => ⟨rfl, hc, d, fs, v, rfl, (e.trans e2) _ _ hd, hf, q H2 e2⟩
theorem fn_type {K : PySem.W.Frag} {v : Value} (h : PySem.W.isFn K v = true) : PySem.W.typeIn K v = some (.type "function") := by
  unfold PySem.W.isFn at h
  exact beq_iff_eq.mp h
/-! ### the hook with the classes' checks -/
def obsX (fa : List He.Fa) (fn : List He.DefD) (xs : List Str) (K : PySem.W.Frag) : He.AlD := ((He.obsD fa fn K).1 && xs.all fun x => oexB K (He.ga K x), (He.obsD fa fn K).2)
def obsXG (n : Nat) (fa : List He.Fa) (fn : List He.DefD) (xs : List Str) (g : Addr → Option Obj) : He.AlD := obsX fa fn xs (He.frG g (He.asD g n))
theorem obsX_says {fa : List He.Fa} {fn : List He.DefD} {xs : List Str} {K : PySem.W.Frag} (h : obsX fa fn xs K = He.valD fn) : He.SaysD fa fn K ∧ ∀ x ∈ xs, oexB K (He.ga K x) = true := by
  have h1 : ((He.obsD fa fn K).1 && xs.all fun x => oexB K (He.ga K x)) = true := congrArg (fun z : He.AlD => z.1) h
  obtain ⟨h2, h3⟩ := Bool.and_eq_true_iff.mp h1
  refine ⟨?_, List.all_eq_true.mp h3⟩
  have h4 : (He.obsD fa fn K).2 = fn.map He.DefD.val := congrArg (fun z : He.AlD => z.2) h
  show He.obsD fa fn K = He.valD fn
  exact Prod.ext h2 h4
def hookX (n : Nat) (fa : List He.Fa) (fn : List He.DefD) (xs : List Str) : PySem.W.Hook where
  α := He.AlD
  obs := fun s => obsXG n fa fn xs s.heap.get?
  val := fun _ => He.valD fn
  says := fun _ h => ∃ K : PySem.W.Frag, K.In h ∧ (He.SaysD fa fn K ∧ ∀ x ∈ xs, oexB K (He.ga K x) = true)
  of := fun _ _ e => ⟨_, He.frG_in, obsX_says e⟩
  keeps := fun _ _ _ ⟨K, hK, c⟩ k => ⟨K, PySem.W.Frag.In.keeps hK k, c⟩
theorem obsXG_eq {n : Nat} {fa : List He.Fa} {fn : List He.DefD} {xs : List Str} {g : Addr → Option Obj} {s : Shared} (h : ∀ a, g a = s.heap.get? a) : obsXG n fa fn xs g = (hookX n fa fn xs).obs s := by
  have e : g = s.heap.get? := funext h
  rw [e] <;> rfl
end Hw

/-! Plain mathematics: columns, effective widths, borders and periods of words. -/
namespace Hw

/-! ### columns -/
def col (ws : List Nat) (p : Nat) : Nat := ws.foldl (fun a w => a % w) p
theorem col_nil (p : Nat) : col [] p = p := rfl
theorem col_cons (w : Nat) (ws : List Nat) (p : Nat) : col (w :: ws) p = col ws (p % w) := rfl
theorem col_append (a b : List Nat) (p : Nat) : col (a ++ b) p = col b (col a p) := by simp [col]
theorem col_snoc (a : List Nat) (w p : Nat) : col (a ++ [w]) p = col a p % w := by rw [col_append]; rfl
theorem col_le : ∀ (ws : List Nat) (p : Nat), col ws p ≤ p
  | [], p => Nat.le_refl p
  | w :: ws, p => Nat.le_trans (col_le ws (p % w)) (Nat.mod_le p w)
theorem col_small : ∀ (ws : List Nat) (p : Nat), (∀ w ∈ ws, p < w) → col ws p = p
  | [], _, _ => rfl
  | w :: ws, p, h => by
    rw [col_cons, Nat.mod_eq_of_lt (h w List.mem_cons_self)]
    exact col_small ws p fun x hx => h x (List.mem_cons_of_mem _ hx)
/-- every column is idempotent -/
def Pos (ws : List Nat) : Prop := ∀ w ∈ ws, 0 < w
theorem col_per (w : Nat) (ws : List Nat) (p : Nat) : col (w :: ws) (p + w) = col (w :: ws) p := by
  rw [col_cons, col_cons, Nat.add_mod_right]
theorem col_perMul (w : Nat) (ws : List Nat) (p k : Nat) : col (w :: ws) (p + w * k) = col (w :: ws) p := by
  rw [col_cons, col_cons, Nat.add_mul_mod_self_left]

/-! ### effective widths -/
def effStep (f : List Nat) (w : Nat) : List Nat := if f = [] ∨ w < f.getLastD 0 then f ++ [w] else f
def eff (ws : List Nat) : List Nat := ws.foldl effStep []
theorem eff_snoc (ws : List Nat) (w : Nat) : eff (ws ++ [w]) = effStep (eff ws) w := by simp [eff]
theorem effGo_mem : ∀ (ws acc : List Nat), ∀ x ∈ ws.foldl effStep acc, x ∈ acc ∨ x ∈ ws
  | [], acc, x, h => .inl h
  | w :: ws, acc, x, h => by
    rcases effGo_mem ws (effStep acc w) x h with q | q
    · unfold effStep at q
      split at q
      · rcases List.mem_append.mp q with q | q
        · exact .inl q
        · exact .inr (by rw [List.mem_singleton.mp q]; exact List.mem_cons_self)
      · exact .inl q
    · exact .inr (List.mem_cons_of_mem _ q)
theorem eff_mem {ws : List Nat} {x : Nat} (h : x ∈ eff ws) : x ∈ ws := by
  rcases effGo_mem ws [] x h with q | q
  · cases q
  · exact q
theorem effGo_len : ∀ (ws acc : List Nat), (ws.foldl effStep acc).length ≤ acc.length + ws.length
  | [], acc => by simp
  | w :: ws, acc => by
    have h := effGo_len ws (effStep acc w)
    have h2 : (effStep acc w).length ≤ acc.length + 1 := by
      unfold effStep
      split
      · simp
      · omega
    simp only [List.foldl_cons, List.length_cons]
    omega
theorem eff_len (ws : List Nat) : (eff ws).length ≤ ws.length := by
  have := effGo_len ws []
  simpa [eff] using this
theorem effGo_pre : ∀ (ws acc : List Nat), ∃ t, ws.foldl effStep acc = acc ++ t
  | [], acc => ⟨[], by simp⟩
  | w :: ws, acc => by
    obtain ⟨t, ht⟩ := effGo_pre ws (effStep acc w)
    unfold effStep at ht
    split at ht
    · exact ⟨[w] ++ t, by
        rw [List.foldl_cons]
        unfold effStep
        rw [if_pos (by assumption), ht, List.append_assoc]⟩
    · exact ⟨t, by
        rw [List.foldl_cons]
        unfold effStep
        rw [if_neg (by assumption), ht]⟩
theorem eff_cons (w : Nat) (ws : List Nat) : ∃ t, eff (w :: ws) = w :: t := by
  obtain ⟨t, ht⟩ := effGo_pre ws [w]
  refine ⟨t, ?_⟩
  show ws.foldl effStep (effStep [] w) = w :: t
  have : effStep [] w = [w] := by simp [effStep]
  rw [this, ht]
  rfl
theorem eff_nil : eff [] = [] := rfl
theorem eff_eq_nil {ws : List Nat} (h : eff ws = []) : ws = [] := by
  cases ws with
  | nil => rfl
  | cons w ws =>
    obtain ⟨t, ht⟩ := eff_cons w ws
    rw [ht] at h
    cases h
theorem col_lt_last {acc : List Nat} (hp : Pos acc) (hn : acc ≠ []) (p : Nat) : col acc p < acc.getLastD 0 := by
  rcases List.eq_nil_or_concat acc with e | ⟨l, m, e⟩
  · exact absurd e hn
  · rw [List.concat_eq_append] at e
    subst e
    rw [col_snoc]
    have : 0 < m := hp m (by simp)
    simpa using Nat.mod_lt _ this
theorem effGo_col : ∀ (ws acc : List Nat) (p : Nat), Pos acc → Pos ws → col (ws.foldl effStep acc) p = col ws (col acc p)
  | [], acc, p, _, _ => rfl
  | w :: ws, acc, p, ha, hw => by
    rw [List.foldl_cons, col_cons]
    have hw0 : 0 < w := hw w List.mem_cons_self
    have hws : Pos ws := fun x hx => hw x (List.mem_cons_of_mem _ hx)
    by_cases h : acc = [] ∨ w < acc.getLastD 0
    · have es : effStep acc w = acc ++ [w] := if_pos h
      rw [es, effGo_col ws (acc ++ [w]) p (fun x hx => by
        rcases List.mem_append.mp hx with q | q
        · exact ha x q
        · rw [List.mem_singleton.mp q]; exact hw0) hws, col_snoc]
    · have es : effStep acc w = acc := if_neg h
      have hn : acc ≠ [] := fun e => h (.inl e)
      have hl : ¬ w < acc.getLastD 0 := fun e => h (.inr e)
      have := col_lt_last ha hn p
      rw [es, effGo_col ws acc p ha hws, Nat.mod_eq_of_lt (by omega)]
theorem eff_col {ws : List Nat} (h : Pos ws) (p : Nat) : col (eff ws) p = col ws p := effGo_col ws [] p (fun _ q => by cases q) h
theorem eff_pos {ws : List Nat} (h : Pos ws) : Pos (eff ws) := fun x hx => h x (eff_mem hx)

/-! ### borders -/
def bord (f : Nat → Nat) (n b : Nat) : Prop := b < n ∧ ∀ i, i < b → f i = f (n - b + i)
def bordB (f : Nat → Nat) (n b : Nat) : Bool := (List.range b).all fun i => f i == f (n - b + i)
theorem bordB_iff {f : Nat → Nat} {n b : Nat} : bordB f n b = true ↔ ∀ i, i < b → f i = f (n - b + i) := by
  unfold bordB
  simp [List.all_eq_true]
def lbGo (f : Nat → Nat) (n : Nat) : Nat → Nat
  | 0 => 0
  | b + 1 => if bordB f n (b + 1) = true then b + 1 else lbGo f n b
/-- the longest proper border of the first n values -/
def lb (f : Nat → Nat) (n : Nat) : Nat := lbGo f n (n - 1)
theorem lbGo_le (f : Nat → Nat) (n : Nat) : ∀ b, lbGo f n b ≤ b
  | 0 => Nat.le_refl 0
  | b + 1 => by
    unfold lbGo
    split
    · exact Nat.le_refl _
    · exact Nat.le_succ_of_le (lbGo_le f n b)
theorem lbGo_bord (f : Nat → Nat) (n : Nat) : ∀ b, bordB f n (lbGo f n b) = true
  | 0 => by simp [lbGo, bordB]
  | b + 1 => by
    unfold lbGo
    split
    · assumption
    · exact lbGo_bord f n b
theorem lbGo_max (f : Nat → Nat) (n : Nat) : ∀ b c, c ≤ b → bordB f n c = true → c ≤ lbGo f n b
  | 0, c, h, _ => by
    have : c = 0 := by omega
    subst this
    exact Nat.zero_le _
  | b + 1, c, h, hb => by
    unfold lbGo
    split
    · exact h
    · rename_i hn
      by_cases e : c = b + 1
      · subst e
        exact absurd hb hn
      · exact lbGo_max f n b c (by omega) hb
theorem lb_bord {f : Nat → Nat} {n : Nat} (h : 1 ≤ n) : bord f n (lb f n) := by
  refine ⟨?_, bordB_iff.mp (lbGo_bord f n (n - 1))⟩
  have := lbGo_le f n (n - 1)
  unfold lb
  omega
theorem lb_max {f : Nat → Nat} {n b : Nat} (h : bord f n b) : b ≤ lb f n := lbGo_max f n (n - 1) b (by have := h.1; omega) (bordB_iff.mpr h.2)
theorem lb_zero (f : Nat → Nat) : lb f 0 = 0 := rfl
theorem lb_one (f : Nat → Nat) : lb f 1 = 0 := rfl
theorem lb_lt {f : Nat → Nat} {n : Nat} (h : 1 ≤ n) : lb f n < n := (lb_bord h).1
theorem lb_le (f : Nat → Nat) (n : Nat) : lb f n ≤ n := by
  have := lbGo_le f n (n - 1)
  unfold lb
  omega
theorem lb_eq {f : Nat → Nat} {n b : Nat} (h : bord f n b) (hm : ∀ c, bord f n c → c ≤ b) : lb f n = b :=
  Nat.le_antisymm (hm _ (lb_bord (by have := h.1; omega))) (lb_max h)
/-- two words that are alike up to n -/
theorem lb_congr {f g : Nat → Nat} {n : Nat} (h : ∀ i, i < n → f i = g i) : lb f n = lb g n := by
  by_cases hn : 1 ≤ n
  · refine lb_eq ?_ ?_
    · obtain ⟨h1, h2⟩ := lb_bord (f := g) hn
      exact ⟨h1, fun i hi => by rw [h i (by omega), h2 i hi, h _ (by omega)]⟩
    · intro c hc
      exact lb_max ⟨hc.1, fun i hi => by rw [← h i (by have := hc.1; omega), hc.2 i hi, h _ (by have := hc.1; omega)]⟩
  · have : n = 0 := by omega
    subst this
    rfl
/-- a border of a border is a border -/
theorem bord_trans {f : Nat → Nat} {n b c : Nat} (h : bord f n b) (h' : bord f b c) : bord f n c := by
  refine ⟨Nat.lt_trans h'.1 h.1, fun i hi => ?_⟩
  have h1 := h.1
  have h2 := h'.1
  rw [h'.2 i hi, h.2 (b - c + i) (by omega)]
  congr 1
  omega
/-- a shorter border of the whole is a border of a longer one -/
theorem bord_sub {f : Nat → Nat} {n b c : Nat} (h : bord f n b) (h' : bord f n c) (hl : c < b) : bord f b c := by
  refine ⟨hl, fun i hi => ?_⟩
  have h1 := h.1
  rw [h'.2 i hi, h.2 (b - c + i) (by omega)]
  congr 1
  omega
/-- a border of the word with one more value, one shorter -/
theorem bord_pred {f : Nat → Nat} {n b : Nat} (hn : 1 ≤ n) (h : bord f (n + 1) (b + 1)) : bord f n b ∧ f b = f n := by
  have h1 := h.1
  refine ⟨⟨by omega, fun i hi => ?_⟩, ?_⟩
  · rw [h.2 i (by omega)]
    congr 1
    omega
  · rw [h.2 b (by omega)]
    congr 1
    omega
theorem bord_succ {f : Nat → Nat} {n b : Nat} (h : bord f n b) (e : f b = f n) : bord f (n + 1) (b + 1) := by
  have h1 := h.1
  refine ⟨by omega, fun i hi => ?_⟩
  by_cases q : i = b
  · subst q
    rw [e]
    congr 1
    omega
  · rw [h.2 i (by omega)]
    congr 1
    omega
/-- the inner loop's word: border is a border of the first n values, and no longer one goes on -/
structure KmpIn (f : Nat → Nat) (n b : Nat) : Prop where
  bd : bord f n b
  up : ∀ c, bord f (n + 1) (c + 1) → c ≤ b
theorem kmp_start {f : Nat → Nat} {n : Nat} (hn : 1 ≤ n) : KmpIn f n (lb f n) := ⟨lb_bord hn, fun _ hc => lb_max (bord_pred hn hc).1⟩
theorem kmp_turn {f : Nat → Nat} {n b : Nat} (h : KmpIn f n b) (hb : 0 < b) (hne : f b ≠ f n) : KmpIn f n (lb f b) ∧ lb f b < b := by
  have hn : 1 ≤ n := by have := h.bd.1; omega
  have l := lb_bord (f := f) (n := b) hb
  refine ⟨⟨bord_trans h.bd l, fun c hc => ?_⟩, l.1⟩
  obtain ⟨h1, h2⟩ := bord_pred hn hc
  have h3 := h.up c hc
  have h4 : c ≠ b := fun e => hne (by rw [← e]; exact h2)
  exact lb_max (bord_sub h.bd h1 (by omega))
theorem kmp_end {f : Nat → Nat} {n b : Nat} (h : KmpIn f n b) (he : ¬ (0 < b ∧ f b ≠ f n)) : lb f (n + 1) = b + (if f b = f n then 1 else 0) := by
  have hn : 1 ≤ n := by have := h.bd.1; omega
  by_cases q : f b = f n
  · rw [if_pos q]
    refine lb_eq (bord_succ h.bd q) fun c hc => ?_
    cases c with
    | zero => omega
    | succ c => have := h.up c hc; omega
  · rw [if_neg q]
    have hb : b = 0 := by
      by_cases z : 0 < b
      · exact absurd ⟨z, q⟩ he
      · omega
    subst hb
    refine lb_eq ⟨by omega, fun i hi => by omega⟩ fun c hc => ?_
    cases c with
    | zero => omega
    | succ c =>
      have h0 := h.up c hc
      have : c = 0 := by omega
      subst this
      exact absurd (bord_pred hn hc).2 q

/-! ### periods -/
/-- p is a period of the first n values -/
def per (f : Nat → Nat) (n p : Nat) : Prop := 1 ≤ p ∧ ∀ x, x + p < n → f x = f (x + p)
/-- the least one -/
def lp (f : Nat → Nat) (n : Nat) : Nat := n - lb f n
theorem per_of_bord {f : Nat → Nat} {n b : Nat} (h : bord f n b) : per f n (n - b) := by
  have h1 := h.1
  refine ⟨by omega, fun x hx => ?_⟩
  rw [h.2 x (by omega), Nat.add_comm]
theorem bord_of_per {f : Nat → Nat} {n p : Nat} (h : per f n p) (hp : p ≤ n) : bord f n (n - p) := by
  have h1 := h.1
  refine ⟨by omega, fun i hi => ?_⟩
  rw [h.2 i (by omega)]
  congr 1
  omega
theorem lp_per {f : Nat → Nat} {n : Nat} (h : 1 ≤ n) : per f n (lp f n) := per_of_bord (lb_bord h)
theorem lp_pos {f : Nat → Nat} {n : Nat} (h : 1 ≤ n) : 1 ≤ lp f n := (lp_per h).1
theorem lp_le (f : Nat → Nat) (n : Nat) : lp f n ≤ n := by unfold lp; omega
theorem lp_min {f : Nat → Nat} {n p : Nat} (h : per f n p) (hn : 1 ≤ n) : lp f n ≤ p := by
  by_cases hp : p ≤ n
  · have := lb_max (bord_of_per h hp)
    unfold lp
    omega
  · have := lp_le f n
    omega
theorem lp_eq {f : Nat → Nat} {n p : Nat} (h : per f n p) (hp : p ≤ n) (hm : ∀ q, per f n q → p ≤ q) (hn : 1 ≤ n) : lp f n = p := Nat.le_antisymm (lp_min h hn) (hm _ (lp_per hn))
theorem lp_congr {f g : Nat → Nat} {n : Nat} (h : ∀ i, i < n → f i = g i) : lp f n = lp g n := by unfold lp; rw [lb_congr h]
/-- multiples of a period -/
theorem per_mul {f : Nat → Nat} {n p : Nat} (h : per f n p) : ∀ (k x : Nat), x + p * k < n → f x = f (x + p * k)
  | 0, x, _ => by simp
  | k + 1, x, hx => by
    have e : x + p * (k + 1) = (x + p * k) + p := by rw [Nat.mul_succ]; omega
    rw [e] at hx ⊢
    rw [per_mul h k x (by omega)]
    exact h.2 _ hx
theorem per_mod {f : Nat → Nat} {n p x : Nat} (h : per f n p) (hx : x < n) : f x = f (x % p) := by
  have e : x % p + p * (x / p) = x := Nat.mod_add_div x p
  have q := per_mul h (x / p) (x % p) (by rw [e]; exact hx)
  rw [e] at q
  exact q.symm
/-- two periods of a word that is as long as both together: their difference is one -/
theorem per_sub {f : Nat → Nat} {n p q : Nat} (h : per f n p) (h' : per f n q) (hl : p + q ≤ n) (hpq : p < q) : per f n (q - p) := by
  refine ⟨by omega, fun x hx => ?_⟩
  have h1 := h.1
  by_cases c : x + q < n
  · rw [h'.2 x c, h.2 (x + (q - p)) (by omega)]
    congr 1
    omega
  · have e1 := h.2 (x - p) (by omega)
    have e2 := h'.2 (x - p) (by omega)
    have e3 : x - p + p = x := by omega
    have e4 : x - p + q = x + (q - p) := by omega
    rw [e3] at e1
    rw [e4] at e2
    rw [← e1, e2]
theorem fine_wilf {f : Nat → Nat} : ∀ (m p q n : Nat), p + q ≤ m → per f n p → per f n q → p + q ≤ n → per f n (Nat.gcd p q)
  | 0, p, q, n, hm, h, h', _ => by have := h.1; have := h'.1; omega
  | m + 1, p, q, n, hm, h, h', hl => by
    have h1 := h.1
    have h2 := h'.1
    by_cases e : p = q
    · subst e
      rw [Nat.gcd_self]
      exact h
    · by_cases c : p < q
      · have d := per_sub h h' hl c
        have := fine_wilf m p (q - p) n (by omega) h d (by omega)
        rw [Nat.gcd_sub_self_right (by omega)] at this
        exact this
      · have d := per_sub h' h (by omega) (by omega)
        have := fine_wilf m (p - q) q n (by omega) d h' (by omega)
        rw [Nat.gcd_comm, Nat.gcd_sub_self_right (by omega), Nat.gcd_comm] at this
        exact this

/-! ### periods for ever -/
def perW (f : Nat → Nat) (p : Nat) : Prop := 1 ≤ p ∧ ∀ x, f x = f (x + p)
theorem perW.per {f : Nat → Nat} {p n : Nat} (h : perW f p) : per f n p := ⟨h.1, fun x _ => h.2 x⟩
theorem perW_mul {f : Nat → Nat} {p : Nat} (h : perW f p) (k x : Nat) : f (x + p * k) = f x := (per_mul (h.per (n := x + p * k + 1)) k x (by omega)).symm
theorem perW_mod {f : Nat → Nat} {p : Nat} (h : perW f p) (x : Nat) : f x = f (x % p) := per_mod (h.per (n := x + 1)) (by omega)
theorem perW_gcd {f : Nat → Nat} {p q : Nat} (h : perW f p) (h' : perW f q) : perW f (Nat.gcd p q) := by
  refine ⟨Nat.gcd_pos_of_pos_left _ h.1, fun x => ?_⟩
  have l : Nat.gcd p q ≤ p := Nat.gcd_le_left _ h.1
  exact (fine_wilf (p + q) p q (x + p + q + 1) (Nat.le_refl _) h.per h'.per (by omega)).2 x (by omega)
theorem perW_of_block {f : Nat → Nat} {W p : Nat} (hW : perW f W) (h : per f W p) (hd : W % p = 0) : perW f p := by
  have hp := h.1
  have hW1 := hW.1
  obtain ⟨k, hk⟩ : ∃ k, W = p * k := ⟨W / p, by rw [Nat.mul_div_cancel' (Nat.dvd_of_mod_eq_zero hd)]⟩
  have hb : ∀ y, f y = f (y % p) := fun y => by
    rw [perW_mod hW y, per_mod h (Nat.mod_lt _ hW1), hk, Nat.mod_mul_right_mod]
  refine ⟨hp, fun x => ?_⟩
  rw [hb x, hb (x + p), Nat.add_mod_right]
/-- the least period for ever, from a block W -/
def wp (f : Nat → Nat) (W : Nat) : Nat := if W % lp f W = 0 then lp f W else W
theorem wp_per {f : Nat → Nat} {W : Nat} (h : perW f W) : perW f (wp f W) := by
  unfold wp
  split
  · exact perW_of_block h (lp_per h.1) (by assumption)
  · exact h
theorem wp_le {f : Nat → Nat} {W : Nat} : wp f W ≤ W := by
  unfold wp
  split
  · exact lp_le f W
  · exact Nat.le_refl W
theorem wp_min {f : Nat → Nat} {W q : Nat} (h : perW f W) (hq : perW f q) : wp f W ≤ q := by
  have g := perW_gcd h hq
  have gd : Nat.gcd W q ∣ W := Nat.gcd_dvd_left _ _
  have gq : Nat.gcd W q ≤ q := Nat.gcd_le_right _ hq.1
  refine Nat.le_trans ?_ gq
  have W1 := h.1
  have l1 := lp_min (n := W) g.per W1
  unfold wp
  split
  · exact l1
  · rename_i hd
    -- the block's least period does not divide it: no period for ever is shorter
    have gW : Nat.gcd W q ≤ W := Nat.gcd_le_left _ W1
    by_cases c : Nat.gcd W q = W
    · omega
    · exfalso
      obtain ⟨k, hk⟩ := gd
      have k2 : 2 ≤ k := by
        rcases k with _ | _ | k
        · omega
        · omega
        · omega
      have h2 : Nat.gcd W q + Nat.gcd W q ≤ W := by
        have : Nat.gcd W q * 2 ≤ Nat.gcd W q * k := Nat.mul_le_mul_left _ k2
        omega
      have d := fine_wilf _ _ _ W (Nat.le_refl _) (lp_per W1) (g.per (n := W)) (by omega)
      have d1 : Nat.gcd (lp f W) (Nat.gcd W q) ∣ W := Nat.dvd_trans (Nat.gcd_dvd_right _ _) ⟨k, hk⟩
      have d2 := lp_min d W1
      have d3 : Nat.gcd (lp f W) (Nat.gcd W q) ≤ lp f W := Nat.gcd_le_left _ (lp_pos W1)
      have d4 : lp f W = Nat.gcd (lp f W) (Nat.gcd W q) := by omega
      exact hd (Nat.mod_eq_zero_of_dvd (by rw [d4]; exact d1))
theorem wp_dvd {f : Nat → Nat} {W q : Nat} (h : perW f W) (hq : perW f q) : wp f W ∣ q := by
  have p := wp_per h
  have g := perW_gcd p hq
  have l := wp_min h g
  have l2 : Nat.gcd (wp f W) q ≤ wp f W := Nat.gcd_le_left _ p.1
  have e : Nat.gcd (wp f W) q = wp f W := by omega
  rw [← e]
  exact Nat.gcd_dvd_right _ _

/-! ### the columns' periods -/
theorem col_perW {w : Nat} {ws : List Nat} (h : 0 < w) : perW (col (w :: ws)) w := ⟨h, fun x => (col_per w ws x).symm⟩
def wholeO (ws : List Nat) : Option Nat := match ws with
  | [] => none
  | w :: _ => some (wp (col ws) w)
/-- the first number below n of which g is true -/
def firstN (g : Nat → Bool) (n : Nat) : Option Nat := (List.range n).find? g
theorem firstN_none {g : Nat → Bool} {n : Nat} : firstN g n = none ↔ ∀ i, i < n → g i = false := by
  unfold firstN
  rw [List.find?_eq_none]
  constructor
  · intro h i hi
    have := h i (List.mem_range.mpr hi)
    simpa using this
  · intro h i hi
    have := h i (List.mem_range.mp hi)
    simp [this]
theorem firstN_some {g : Nat → Bool} {n i : Nat} (hi : i < n) (h : g i = true) (hb : ∀ j, j < i → g j = false) : firstN g n = some i := by
  unfold firstN
  rw [List.find?_range_eq_some]
  exact ⟨h, List.mem_range.mpr hi, fun j hj => by simp [hb j hj]⟩
theorem firstN_get {g : Nat → Bool} {n i : Nat} (h : firstN g n = some i) : i < n ∧ g i = true ∧ ∀ j, j < i → g j = false := by
  unfold firstN at h
  rw [List.find?_range_eq_some] at h
  obtain ⟨h1, h2, h3⟩ := h
  exact ⟨List.mem_range.mp h2, h1, fun j hj => by simpa using h3 j hj⟩
def differs (ws : List Nat) (s i : Nat) : Bool := decide (col ws (s + i) ≠ col ws i)
def overlapO (ws : List Nat) (s : Nat) : Option Nat := match wholeO ws with
  | none => if s = 0 then none else some 0
  | some p => firstN (differs ws s) p
/-- as the law finds it: place by place, for as many places as the first width has -/
def lawOverlapO (ws : List Nat) (s : Nat) : Option Nat := match ws with
  | [] => if s = 0 then none else some 0
  | w :: _ => firstN (differs ws s) w
/-- a search in a periodic row needs one period -/
theorem firstN_per {g : Nat → Bool} {p n : Nat} (hp : 1 ≤ p) (hl : p ≤ n) (h : ∀ i, g i = g (i % p)) : firstN g p = firstN g n := by
  cases e : firstN g p with
  | none =>
    have e' := firstN_none.mp e
    exact (firstN_none.mpr fun i hi => by rw [h i]; exact e' _ (Nat.mod_lt _ hp)).symm
  | some i =>
    obtain ⟨h1, h2, h3⟩ := firstN_get e
    exact (firstN_some (by omega) h2 h3).symm
theorem differs_mod {ws : List Nat} {p s : Nat} (h : perW (col ws) p) (i : Nat) : differs ws s i = differs ws s (i % p) := by
  unfold differs
  have e1 : col ws (s + i) = col ws (s + i % p) := by
    rw [perW_mod h (s + i), perW_mod h (s + i % p), Nat.add_mod_mod]
  rw [e1, perW_mod h i]
theorem wholeO_cons {w : Nat} {ws : List Nat} : wholeO (w :: ws) = some (wp (col (w :: ws)) w) := rfl
theorem overlap_law {ws : List Nat} (hp : Pos ws) (s : Nat) : overlapO (eff ws) s = lawOverlapO ws s := by
  cases ws with
  | nil => rfl
  | cons w ws =>
    obtain ⟨t, ht⟩ := eff_cons w ws
    have hw : 0 < w := hp w List.mem_cons_self
    have hc : ∀ p, col (w :: t) p = col (w :: ws) p := fun p => by rw [← ht]; exact eff_col hp p
    have hd : ∀ i, differs (w :: t) s i = differs (w :: ws) s i := fun i => by unfold differs; rw [hc, hc]
    unfold overlapO
    rw [ht, wholeO_cons]
    show firstN (differs (w :: t) s) _ = firstN (differs (w :: ws) s) w
    have pw := wp_per (col_perW (ws := t) hw)
    rw [firstN_per pw.1 wp_le (differs_mod pw)]
    have : differs (w :: t) s = differs (w :: ws) s := funext hd
    rw [this]
theorem overlap_none_iff {ws : List Nat} {p : Nat} (hp : Pos ws) (hw : wholeO ws = some p) (s : Nat) : overlapO ws s = none ↔ s % p = 0 := by
  cases ws with
  | nil => cases hw
  | cons w t =>
    have w0 : 0 < w := hp w List.mem_cons_self
    have e : wp (col (w :: t)) w = p := Option.some.inj hw
    have pw := wp_per (col_perW (ws := t) w0)
    rw [e] at pw
    unfold overlapO
    rw [hw]
    show firstN _ p = none ↔ _
    rw [firstN_none]
    constructor
    · intro h
      by_cases s0 : s = 0
      · subst s0
        simp
      · have ps : perW (col (w :: t)) s := ⟨by omega, fun x => by
          have := h (x % p) (Nat.mod_lt _ pw.1)
          unfold differs at this
          have h2 : col (w :: t) (s + x % p) = col (w :: t) (x % p) := by simpa using this
          rw [perW_mod pw x, ← h2, perW_mod pw (x + s), perW_mod pw (s + x % p), Nat.add_mod_mod, Nat.add_comm]⟩
        have := wp_dvd (col_perW (ws := t) w0) ps
        rw [e] at this
        exact Nat.mod_eq_zero_of_dvd this
    · intro h i _
      unfold differs
      have : col (w :: t) (s + i) = col (w :: t) i := by
        obtain ⟨k, hk⟩ := Nat.dvd_of_mod_eq_zero h
        rw [hk, Nat.add_comm, perW_mul pw]
      simp [this]
theorem lawOverlap_none {ws : List Nat} {s : Nat} (hp : Pos ws) (h : lawOverlapO ws s = none) (i : Nat) : col ws (s + i) = col ws i := by
  cases ws with
  | nil =>
    have : s = 0 := by
      unfold lawOverlapO at h
      by_cases z : s = 0
      · exact z
      · simp [z] at h
    subst this
    rw [Nat.zero_add]
  | cons w t =>
    have w0 : 0 < w := hp w List.mem_cons_self
    have pw := col_perW (ws := t) w0
    have h2 := firstN_none.mp (show firstN (differs (w :: t) s) w = none from h) (i % w) (Nat.mod_lt _ w0)
    unfold differs at h2
    have h3 : col (w :: t) (s + i % w) = col (w :: t) (i % w) := by simpa using h2
    rw [perW_mod pw i, ← h3, perW_mod pw (s + i), perW_mod pw (s + i % w), Nat.add_mod_mod]
theorem lawOverlap_some {ws : List Nat} {s d : Nat} (h : lawOverlapO ws s = some d) :
    (∀ i, i < d → col ws (s + i) = col ws i) ∧ col ws (s + d) ≠ col ws d ∧ (∀ B, (∀ x ∈ ws, x ≤ B) → d ≤ B) := by
  cases ws with
  | nil =>
    unfold lawOverlapO at h
    by_cases z : s = 0
    · simp [z] at h
    · have e : (0 : Nat) = d := by simpa [z] using h
      subst e
      exact ⟨fun i hi => by omega, by rw [col_nil, col_nil]; omega, fun B _ => Nat.zero_le B⟩
  | cons w t =>
    obtain ⟨h1, h2, h3⟩ := firstN_get (show firstN (differs (w :: t) s) w = some d from h)
    refine ⟨fun i hi => ?_, ?_, fun B hB => ?_⟩
    · have := h3 i hi
      unfold differs at this
      simpa using this
    · unfold differs at h2
      simpa using h2
    · have := hB w List.mem_cons_self
      omega
/-! ### least periods found by trying -/
theorem wp_same {f : Nat → Nat} {W W' : Nat} (h : perW f W) (h' : perW f W') : wp f W = wp f W' :=
  Nat.le_antisymm (wp_min h (wp_per h')) (wp_min h' (wp_per h))
/-- a block that repeats after lag -/
theorem perW_iff {f : Nat → Nat} {W p : Nat} (h : perW f W) (hp : 1 ≤ p) : perW f p ↔ ∀ i, i < W → f (p + i) = f i := by
  constructor
  · intro q i _
    rw [Nat.add_comm]
    exact (q.2 i).symm
  · intro q
    refine ⟨hp, fun x => ?_⟩
    have := q (x % W) (Nat.mod_lt _ h.1)
    rw [perW_mod h x, ← this, perW_mod h (x + p), perW_mod h (p + x % W), Nat.add_mod_mod, Nat.add_comm]
theorem wp_eq_of {f : Nat → Nat} {W p : Nat} (h : perW f W) (hp : perW f p) (hm : ∀ q, 1 ≤ q → q < p → ¬ perW f q) : wp f W = p := by
  have w := wp_per h
  have l := wp_min h hp
  by_cases e : wp f W = p
  · exact e
  · exact absurd w (hm _ w.1 (by omega))
/-- what the law by divisors asks of a shift -/
theorem divisor_iff {f : Nat → Nat} {W p : Nat} (h : perW f W) (hp : 1 ≤ p) (hW : p < W) : (W % p = 0 ∧ f p = f 0 ∧ ∀ i, i < W - p → f (p + i) = f i) ↔ W % p = 0 ∧ perW f p := by
  constructor
  · rintro ⟨h1, h2, h3⟩
    refine ⟨h1, perW_of_block h ⟨hp, fun x hx => ?_⟩ h1⟩
    rw [Nat.add_comm]
    exact (h3 x (by omega)).symm
  · rintro ⟨h1, h2⟩
    refine ⟨h1, ?_, fun i _ => ?_⟩
    · have := h2.2 0
      rw [Nat.zero_add] at this
      exact this.symm
    · rw [Nat.add_comm]
      exact (h2.2 i).symm
/-- a multiple of the period in front changes no column -/
theorem col_front {ws : List Nat} {p k : Nat} (h : perW (col ws) p) : col ((p * k) :: ws) = col ws := by
  funext x
  rw [col_cons]
  have e : x % (p * k) + p * k * (x / (p * k)) = x := Nat.mod_add_div x (p * k)
  have := perW_mul h (k * (x / (p * k))) (x % (p * k))
  rw [← Nat.mul_assoc, e] at this
  exact this.symm
theorem wholeO_eff {w : Nat} {ws : List Nat} (hp : Pos (w :: ws)) : wholeO (eff (w :: ws)) = some (wp (col (w :: ws)) w) := by
  obtain ⟨t, ht⟩ := eff_cons w ws
  have : col (w :: t) = col (w :: ws) := by
    funext x
    rw [← ht]
    exact eff_col hp x
  rw [ht, wholeO_cons, this]
theorem wholeO_front {w p k : Nat} {ws : List Nat} (hp : Pos (w :: ws)) (h : wholeO (eff (w :: ws)) = some p) (hk : 0 < k) : wholeO (eff ((p * k) :: w :: ws)) = some p := by
  rw [wholeO_eff hp] at h
  have e := Option.some.inj h
  have w0 : 0 < w := hp w List.mem_cons_self
  have b := col_perW (ws := ws) w0
  have pw := wp_per b
  rw [e] at pw
  have p0 : 0 < p * k := Nat.mul_pos pw.1 hk
  have hp2 : Pos ((p * k) :: w :: ws) := fun x hx => by
    rcases List.mem_cons.mp hx with q | q
    · rw [q]; exact p0
    · exact hp x q
  rw [wholeO_eff hp2, col_front pw, ← e]
  congr 1
  refine wp_same ?_ b
  have := col_perW (ws := w :: ws) (w := p * k) p0
  rw [e]
  rw [col_front pw] at this
  exact this
theorem wp_single (W : Nat) (h : 0 < W) : wholeO [W] = some W := by
  have b := col_perW (ws := []) h
  have pw := wp_per b
  rw [wholeO_cons]
  congr 1
  have l := wp_le (f := col [W]) (W := W)
  have q := pw.2 0
  have h1 := pw.1
  by_cases e : wp (col [W]) W = W
  · exact e
  · exfalso
    have c : ∀ x, col [W] x = x % W := fun x => rfl
    rw [c, c, Nat.zero_add, Nat.zero_mod, Nat.mod_eq_of_lt (by omega)] at q
    omega
end Hw

/-! Pieces of lines, their columns, obstacles and descents: plain Lean. -/
namespace Hw
def brk1 (w : Nat) (sz : List Nat) : List Nat := sz.flatMap fun s => List.replicate (s / w) w ++ List.replicate (if 0 < s % w then 1 else 0) (s % w)
def brk0 (n : Nat) : List Nat := List.replicate (if 0 < n then 1 else 0) n
def brkGo (ws : List Nat) (sz : List Nat) : List Nat := ws.foldl (fun sz w => brk1 w sz) sz
def brk (ws : List Nat) (n : Nat) : List Nat := brkGo ws (brk0 n)
def colsL (sz : List Nat) : List Nat := sz.flatMap List.range
theorem colsL_nil : colsL [] = [] := rfl
theorem colsL_cons (s : Nat) (sz : List Nat) : colsL (s :: sz) = List.range s ++ colsL sz := rfl
theorem colsL_append (a b : List Nat) : colsL (a ++ b) = colsL a ++ colsL b := by simp [colsL]
theorem colsL_rep0 (n : Nat) : colsL (List.replicate (if 0 < n then 1 else 0) n) = List.range n := by
  by_cases h : 0 < n
  · rw [if_pos h]
    simp [colsL]
  · rw [if_neg h]
    have : n = 0 := by omega
    subst this
    rfl
theorem colsL_len (sz : List Nat) : (colsL sz).length = sz.sum := by
  induction sz with
  | nil => rfl
  | cons s sz ih => rw [colsL_cons, List.length_append, List.length_range, ih, List.sum_cons]
theorem range_mod {w : Nat} (hw : 0 < w) : ∀ (m s : Nat), s ≤ m → (List.range s).map (· % w) = colsL (List.replicate (s / w) w ++ List.replicate (if 0 < s % w then 1 else 0) (s % w)) := by
  intro m
  induction m with
  | zero =>
    intro s hs
    have : s = 0 := by omega
    subst this
    simp [colsL]
  | succ m ih =>
    intro s hs
    by_cases h : s < w
    · rw [Nat.div_eq_of_lt h, Nat.mod_eq_of_lt h, List.replicate_zero, List.nil_append, colsL_rep0]
      conv => rhs; rw [← List.map_id (List.range s)]
      refine List.map_congr_left fun x hx => ?_
      exact Nat.mod_eq_of_lt (Nat.lt_trans (List.mem_range.mp hx) h)
    · obtain ⟨d, rfl⟩ : ∃ d, s = w + d := ⟨s - w, by omega⟩
      rw [List.range_add, List.map_append, Nat.add_div_left _ hw, Nat.add_mod_left, List.replicate_succ, List.cons_append, colsL_cons]
      congr 1
      · conv => rhs; rw [← List.map_id (List.range w)]
        exact List.map_congr_left fun x hx => Nat.mod_eq_of_lt (List.mem_range.mp hx)
      · rw [List.map_map, ← ih d (by omega)]
        exact List.map_congr_left fun x _ => Nat.add_mod_left _ _
theorem colsL_brk1 {w : Nat} (hw : 0 < w) (sz : List Nat) : colsL (brk1 w sz) = (colsL sz).map (· % w) := by
  induction sz with
  | nil => rfl
  | cons s sz ih =>
    have e : brk1 w (s :: sz) = (List.replicate (s / w) w ++ List.replicate (if 0 < s % w then 1 else 0) (s % w)) ++ brk1 w sz := rfl
    rw [e, colsL_append, ih, colsL_cons, List.map_append, range_mod hw s s (Nat.le_refl _)]
theorem colsL_brkGo : ∀ (ws sz : List Nat), Pos ws → colsL (brkGo ws sz) = (colsL sz).map (col ws)
  | [], sz, _ => by
    have e : col [] = id := rfl
    rw [e, List.map_id]
    rfl
  | w :: ws, sz, h => by
    have e : brkGo (w :: ws) sz = brkGo ws (brk1 w sz) := rfl
    rw [e, colsL_brkGo ws _ (fun x hx => h x (List.mem_cons_of_mem _ hx)), colsL_brk1 (h w List.mem_cons_self), List.map_map]
    rfl
theorem colsL_brk {ws : List Nat} (h : Pos ws) (n : Nat) : colsL (brk ws n) = (List.range n).map (col ws) := by
  unfold brk brk0
  rw [colsL_brkGo ws _ h, colsL_rep0]
theorem brk1_pos {w : Nat} (hw : 0 < w) (sz : List Nat) : Pos (brk1 w sz) := by
  intro x hx
  obtain ⟨s, _, h⟩ := List.mem_flatMap.mp hx
  rcases List.mem_append.mp h with h | h
  · rw [List.eq_of_mem_replicate h]
    exact hw
  · have e := List.eq_of_mem_replicate h
    by_cases z : 0 < s % w
    · rw [e]; exact z
    · rw [if_neg z] at h
      cases h
theorem brkGo_pos : ∀ (ws sz : List Nat), Pos ws → Pos sz → Pos (brkGo ws sz)
  | [], _, _, h => h
  | w :: ws, sz, hw, h => brkGo_pos ws (brk1 w sz) (fun x hx => hw x (List.mem_cons_of_mem _ hx)) (brk1_pos (hw w List.mem_cons_self) sz)
theorem brk_pos {ws : List Nat} (h : Pos ws) (n : Nat) : Pos (brk ws n) := by
  refine brkGo_pos ws _ h fun x hx => ?_
  unfold brk0 at hx
  by_cases z : 0 < n
  · rw [List.eq_of_mem_replicate hx]; exact z
  · rw [if_neg z] at hx
    cases hx
theorem brk_sum {ws : List Nat} (h : Pos ws) (n : Nat) : (brk ws n).sum = n := by
  rw [← colsL_len, colsL_brk h]
  simp
theorem brkGo_sum {ws : List Nat} (h : Pos ws) (sz : List Nat) : (brkGo ws sz).sum = sz.sum := by
  rw [← colsL_len, colsL_brkGo ws sz h, List.length_map, colsL_len]
theorem len_le_sum : ∀ {sz : List Nat}, Pos sz → sz.length ≤ sz.sum
  | [], _ => Nat.le_refl _
  | s :: sz, h => by
    have h1 := h s List.mem_cons_self
    have h2 := len_le_sum (sz := sz) fun x hx => h x (List.mem_cons_of_mem _ hx)
    rw [List.length_cons, List.sum_cons]
    omega
theorem mem_le_sum {x : Nat} : ∀ {sz : List Nat}, x ∈ sz → x ≤ sz.sum
  | [], h => by cases h
  | s :: sz, h => by
    rw [List.sum_cons]
    rcases List.mem_cons.mp h with h | h
    · omega
    · have := mem_le_sum h
      omega
theorem brkGo_append (a b sz : List Nat) : brkGo (a ++ b) sz = brkGo b (brkGo a sz) := by
  unfold brkGo
  rw [List.foldl_append]
theorem brkGo_snoc (a : List Nat) (w : Nat) (sz : List Nat) : brkGo (a ++ [w]) sz = brk1 w (brkGo a sz) := brkGo_append a [w] sz
theorem brk1_append (w : Nat) (a b : List Nat) : brk1 w (a ++ b) = brk1 w a ++ brk1 w b := by simp [brk1]
theorem brk1_one (w s : Nat) : brk1 w [s] = List.replicate (s / w) w ++ List.replicate (if 0 < s % w then 1 else 0) (s % w) := by simp [brk1]
/-! the pieces from the columns -/
theorem colsL_head {b : List Nat} (hb : Pos b) : (colsL b)[0]? = if b = [] then none else some 0 := by
  cases b with
  | nil => rfl
  | cons y t =>
    have hy := hb y List.mem_cons_self
    rw [colsL_cons, List.getElem?_append_left (by simp; exact hy)]
    simp [hy]
theorem colsL_nil_iff {b : List Nat} (hb : Pos b) (h : colsL b = []) : b = [] := by
  have e := colsL_head hb
  rw [h] at e
  by_cases z : b = []
  · exact z
  · rw [if_neg z] at e
    cases e
theorem colsL_lt {x y : Nat} {s t : List Nat} (hs : Pos s) (hx : 0 < x) (h : colsL (x :: s) = colsL (y :: t)) : ¬ x < y := by
  intro l
  have e := congrArg (fun z => z[x]?) h
  simp only [colsL_cons] at e
  rw [List.getElem?_append_right (by simp), List.getElem?_append_left (by simp; exact l), List.length_range, Nat.sub_self, colsL_head hs] at e
  rw [List.getElem?_range l] at e
  by_cases z : s = []
  · rw [if_pos z] at e
    cases e
  · rw [if_neg z] at e
    have := Option.some.inj e
    omega
theorem colsL_inj : ∀ {a b : List Nat}, Pos a → Pos b → colsL a = colsL b → a = b
  | [], b, _, hb, h => (colsL_nil_iff hb h.symm).symm
  | x :: s, [], ha, _, h => colsL_nil_iff ha h
  | x :: s, y :: t, ha, hb, h => by
    have hx := ha x List.mem_cons_self
    have hy := hb y List.mem_cons_self
    have hs : Pos s := fun z hz => ha z (List.mem_cons_of_mem _ hz)
    have ht : Pos t := fun z hz => hb z (List.mem_cons_of_mem _ hz)
    have e : x = y := by
      have h1 := colsL_lt hs hx h
      have h2 := colsL_lt ht hy h.symm
      omega
    subst e
    have h' : List.range x ++ colsL s = List.range x ++ colsL t := h
    rw [colsL_inj hs ht (List.append_cancel_left h')]
/-! obstacles -/
/-- the first piece: the first column 0 behind the first place, or all -/
def fpieces (f : Nat → Nat) (N : Nat) : List Nat := (List.range N).filter fun p => decide (0 < p) && decide (f p = 0)
def fpiece (f : Nat → Nat) (N : Nat) : Nat := (fpieces f N).headD N
theorem fpiece_le (f : Nat → Nat) (N : Nat) : fpiece f N ≤ N := by
  unfold fpiece
  cases e : fpieces f N with
  | nil => exact Nat.le_refl _
  | cons p t =>
    have : p ∈ fpieces f N := by rw [e]; exact List.mem_cons_self
    have := (List.mem_filter.mp this).1
    exact Nat.le_of_lt (List.mem_range.mp this)
theorem fpiece_lt {f : Nat → Nat} {N p : Nat} (h0 : 0 < p) (h : p < fpiece f N) : f p ≠ 0 := by
  intro z
  have hN := fpiece_le f N
  have hm : p ∈ fpieces f N := List.mem_filter.mpr ⟨List.mem_range.mpr (by omega), by simp [h0, z]⟩
  unfold fpiece at h
  cases e : fpieces f N with
  | nil => rw [e] at hm; cases hm
  | cons q t =>
    rw [e] at h hm
    have hs : (q :: t).Pairwise (· < ·) := by
      rw [← e]
      exact List.Pairwise.sublist List.filter_sublist List.pairwise_lt_range
    rcases List.mem_cons.mp hm with g | g
    · rw [g] at h
      exact Nat.lt_irrefl _ h
    · have := (List.pairwise_cons.mp hs).1 p g
      have h' : p < q := h
      omega
/-- the least number of first columns behind the first piece that have no period -/
def obst (f : Nat → Nat) (N : Nat) : Option Nat := ((List.range (N - fpiece f N)).find? fun i => decide (lb f (fpiece f N + 1 + i) = 0)).map (fpiece f N + 1 + ·)
theorem obst_none {f : Nat → Nat} {N L : Nat} (h : obst f N = none) (h1 : fpiece f N < L) (h2 : L ≤ N) : lb f L ≠ 0 := by
  unfold obst at h
  rw [Option.map_eq_none_iff] at h
  have := List.find?_eq_none.mp h (L - (fpiece f N + 1)) (List.mem_range.mpr (by omega))
  rw [show fpiece f N + 1 + (L - (fpiece f N + 1)) = L by omega] at this
  simpa using this
theorem obst_le {f : Nat → Nat} {N L : Nat} (h : obst f N = some L) : L ≤ N := by
  unfold obst at h
  obtain ⟨i, hi, rfl⟩ := Option.map_eq_some_iff.mp h
  have h1 := fpiece_le f N
  have := List.mem_range.mp (List.mem_of_find?_eq_some hi)
  omega
theorem find_first {g : Nat → Bool} {n i : Nat} (hi : i < n) (h : g i = true) (hb : ∀ j, j < i → g j = false) : (List.range n).find? g = some i := firstN_some hi h hb
theorem obst_some {f : Nat → Nat} {N i : Nat} (hi : i < N - fpiece f N) (h : lb f (fpiece f N + 1 + i) = 0) (hb : ∀ j, j < i → lb f (fpiece f N + 1 + j) ≠ 0) : obst f N = some (fpiece f N + 1 + i) := by
  unfold obst
  rw [find_first hi (decide_eq_true h) fun j hj => decide_eq_false (hb j hj)]
  rfl
theorem obst_is_none {f : Nat → Nat} {N : Nat} (hb : ∀ j, j < N - fpiece f N → lb f (fpiece f N + 1 + j) ≠ 0) : obst f N = none := by
  unfold obst
  rw [List.find?_eq_none.mpr fun j hj => by simpa using hb j (List.mem_range.mp hj)]
  rfl
/-! descents -/
def dsc (f : Nat → Nat) : Nat → Nat → List Nat
  | 0, _ => []
  | k + 1, L => if 0 < lb f L then (L - lb f L) :: dsc f k (L - lb f L) else []
def desc (f : Nat → Nat) (N : Nat) : List Nat := dsc f N N
theorem lb_lt' {f : Nat → Nat} {L : Nat} (h : 0 < lb f L) : lb f L < L := by
  cases L with
  | zero => rw [lb_zero] at h; omega
  | succ L => exact lb_lt (by omega)
theorem dsc_fuel {f : Nat → Nat} : ∀ (k j L : Nat), L ≤ k → L ≤ j → dsc f k L = dsc f j L
  | 0, 0, _, _, _ => rfl
  | 0, j + 1, L, h, _ => by
    have : L = 0 := by omega
    subst this
    unfold dsc
    rw [lb_zero, if_neg (by omega)]
  | k + 1, 0, L, _, h => by
    have : L = 0 := by omega
    subst this
    unfold dsc
    rw [lb_zero, if_neg (by omega)]
  | k + 1, j + 1, L, h1, h2 => by
    unfold dsc
    by_cases z : 0 < lb f L
    · have := lb_lt' z
      rw [if_pos z, if_pos z, dsc_fuel k j _ (by omega) (by omega)]
    · rw [if_neg z, if_neg z]
theorem desc_yes {f : Nat → Nat} {N : Nat} (h : 0 < lb f N) : desc f N = lp f N :: desc f (lp f N) := by
  have := lb_lt' h
  unfold desc lp
  cases N with
  | zero => rw [lb_zero] at h; omega
  | succ N =>
    conv => lhs; unfold dsc
    rw [if_pos h, dsc_fuel N (N + 1 - lb f (N + 1)) _ (by omega) (Nat.le_refl _)]
theorem desc_no {f : Nat → Nat} {N : Nat} (h : lb f N = 0) : desc f N = [] := by
  unfold desc
  cases N with
  | zero => rfl
  | succ N =>
    unfold dsc
    rw [h, if_neg (by omega)]
theorem desc_mem {f : Nat → Nat} : ∀ (N : Nat) {x : Nat}, x ∈ desc f N → 1 ≤ x ∧ x < N := by
  intro N
  induction N using Nat.strongRecOn with
  | ind N ih =>
    intro x hx
    by_cases h : 0 < lb f N
    · have h1 := lb_lt' h
      have hp : lp f N = N - lb f N := rfl
      rw [desc_yes h] at hx
      rcases List.mem_cons.mp hx with hx | hx
      · rw [hx, hp]; omega
      · have := ih (lp f N) (by rw [hp]; omega) hx
        omega
    · rw [desc_no (by omega)] at hx
      cases hx
theorem desc_len {f : Nat → Nat} : ∀ (N : Nat), (desc f N).length ≤ N := by
  intro N
  induction N using Nat.strongRecOn with
  | ind N ih =>
    by_cases h : 0 < lb f N
    · have h1 := lb_lt' h
      have hp : lp f N = N - lb f N := rfl
      have := ih (lp f N) (by omega)
      rw [desc_yes h, List.length_cons]
      omega
    · rw [desc_no (by omega)]
      exact Nat.zero_le _
theorem desc_col {f : Nat → Nat} {N F : Nat} (hF : ∀ i, i < F → f i = i) (ho : ∀ L, F < L → L ≤ N → lb f L ≠ 0) : ∀ (L : Nat), L ≤ N → ∀ i, i < L → col (desc f L) i = f i := by
  intro L
  induction L using Nat.strongRecOn with
  | ind L ih =>
    intro hL i hi
    by_cases h : 0 < lb f L
    · have h1 := lb_lt' h
      have hp : lp f L = L - lb f L := rfl
      have hl : i % lp f L < lp f L := Nat.mod_lt _ (by omega)
      rw [desc_yes h, col_cons, ih (lp f L) (by omega) (by omega) _ hl]
      exact (per_mod (lp_per (by omega)) hi).symm
    · have hl : ¬ F < L := fun z => ho L z hL (by omega)
      rw [desc_no (by omega), hF i (by omega)]
      rfl
/-! the columns of pieces -/
def colF (sz : List Nat) (i : Nat) : Nat := (colsL sz).getD i 0
theorem fpiece_le_head {s : Nat} {t : List Nat} (hs : 0 < s) (ht : Pos t) : fpiece (colF (s :: t)) (s :: t).sum ≤ s := by
  by_cases z : t = []
  · subst z
    have := fpiece_le (colF [s]) [s].sum
    simpa using this
  · refine Nat.le_of_not_lt fun h => fpiece_lt hs h ?_
    unfold colF
    rw [colsL_cons, List.getD_eq_getElem?_getD, List.getElem?_append_right (by simp), List.length_range, Nat.sub_self, colsL_head ht, if_neg z]
    rfl
theorem colF_head {s : Nat} {t : List Nat} {i : Nat} (h : i < s) : colF (s :: t) i = i := by
  unfold colF
  rw [colsL_cons, List.getD_eq_getElem?_getD, List.getElem?_append_left (by simp; exact h)]
  simp [h]
theorem desc_colF {sz : List Nat} (hp : Pos sz) (hn : sz ≠ []) (ho : obst (colF sz) sz.sum = none) {i : Nat} (hi : i < sz.sum) : col (desc (colF sz) sz.sum) i = colF sz i := by
  cases sz with
  | nil => exact absurd rfl hn
  | cons s t =>
    have hs := hp s List.mem_cons_self
    have ht : Pos t := fun x hx => hp x (List.mem_cons_of_mem _ hx)
    have hh := fpiece_le_head hs ht
    exact desc_col (F := fpiece (colF (s :: t)) (s :: t).sum) (fun i hi => colF_head (by omega)) (fun L h1 h2 => obst_none ho h1 h2) _ (Nat.le_refl _) i hi
theorem desc_pos {f : Nat → Nat} {N : Nat} : Pos (desc f N) := fun x hx => (desc_mem N hx).1
/-- the shortest list for a line gives the pieces of each line that agrees with it -/
theorem desc_brk {sz l : List Nat} (hp : Pos sz) (hn : sz ≠ []) (ho : obst (colF sz) sz.sum = none) (hl : Pos l) (hle : l.sum ≤ sz.sum) (ha : colsL l = (colsL sz).take l.sum) : brk (desc (colF sz) sz.sum) l.sum = l := by
  refine colsL_inj (brk_pos desc_pos _) hl ?_
  rw [colsL_brk desc_pos, ha]
  apply List.ext_getElem?
  intro i
  rw [List.getElem?_take]
  by_cases c : i < l.sum
  · rw [if_pos c, List.getElem?_map, List.getElem?_range c, Option.map_some, desc_colF hp hn ho (by omega)]
    unfold colF
    have hi : i < (colsL sz).length := by rw [colsL_len]; omega
    simp [List.getD, hi]
  · rw [if_neg c]
    simp [c]
/-! several lines -/
def agreeB (a b : List Nat) : Bool := decide ((colsL a).take (min (colsL a).length (colsL b).length) = (colsL b).take (min (colsL a).length (colsL b).length))
def clashRow (lss : List (List Nat)) (i : Nat) : Option Nat := ((List.range (lss.length - (i + 1))).find? fun t => !agreeB (lss.getD i []) (lss.getD (i + 1 + t) [])).map (i + 1 + ·)
def clash (lss : List (List Nat)) : Option (Nat × Nat) := (List.range lss.length).findSome? fun i => (clashRow lss i).map fun j => (i, j)
theorem findSome_range {β : Type} {f : Nat → Option β} {n i : Nat} {v : β} (hi : i < n) (h : f i = some v) (hb : ∀ j, j < i → f j = none) : (List.range n).findSome? f = some v := by
  obtain ⟨m, rfl⟩ : ∃ m, n = i + (1 + m) := ⟨n - i - 1, by omega⟩
  rw [List.range_add, List.findSome?_append, List.findSome?_eq_none_iff.mpr fun j hj => hb j (List.mem_range.mp hj), Option.none_or, List.range_add]
  simp [List.findSome?, h]
theorem clashRow_some {lss : List (List Nat)} {i t : Nat} (ht : i + 1 + t < lss.length) (h : agreeB (lss.getD i []) (lss.getD (i + 1 + t) []) = false) (hb : ∀ u, u < t → agreeB (lss.getD i []) (lss.getD (i + 1 + u) []) = true) : clashRow lss i = some (i + 1 + t) := by
  unfold clashRow
  rw [find_first (i := t) (by omega) (by rw [h]; rfl) fun u hu => by rw [hb u hu]; rfl]
  rfl
theorem clashRow_none {lss : List (List Nat)} {i : Nat} (hb : ∀ u, u < lss.length - (i + 1) → agreeB (lss.getD i []) (lss.getD (i + 1 + u) []) = true) : clashRow lss i = none := by
  unfold clashRow
  rw [List.find?_eq_none.mpr fun u hu => by rw [hb u (List.mem_range.mp hu)]; simp]
  rfl
theorem clash_some {lss : List (List Nat)} {i j : Nat} (hi : i < lss.length) (h : clashRow lss i = some j) (hb : ∀ k, k < i → clashRow lss k = none) : clash lss = some (i, j) := by
  unfold clash
  exact findSome_range hi (by rw [h]; rfl) fun k hk => by rw [hb k hk]; rfl
theorem clash_is_none {lss : List (List Nat)} (hb : ∀ k, k < lss.length → clashRow lss k = none) : clash lss = none := by
  unfold clash
  exact List.findSome?_eq_none_iff.mpr fun k hk => by rw [hb k (List.mem_range.mp hk)]; rfl
theorem clash_none {lss : List (List Nat)} (h : clash lss = none) {i j : Nat} (hij : i < j) (hj : j < lss.length) : agreeB (lss.getD i []) (lss.getD j []) = true := by
  unfold clash at h
  have h1 := List.findSome?_eq_none_iff.mp h i (List.mem_range.mpr (by omega))
  rw [Option.map_eq_none_iff] at h1
  unfold clashRow at h1
  rw [Option.map_eq_none_iff] at h1
  have h2 := List.find?_eq_none.mp h1 (j - (i + 1)) (List.mem_range.mpr (by omega))
  rw [show i + 1 + (j - (i + 1)) = j by omega] at h2
  simpa using h2
theorem clash_lt {lss : List (List Nat)} {i j : Nat} (h : clash lss = some (i, j)) : i < lss.length ∧ j < lss.length := by
  unfold clash at h
  obtain ⟨k, hk, h1⟩ := List.exists_of_findSome?_eq_some h
  have hk2 := List.mem_range.mp hk
  obtain ⟨m, hm, he⟩ := Option.map_eq_some_iff.mp h1
  cases he
  unfold clashRow at hm
  obtain ⟨t, ht, rfl⟩ := Option.map_eq_some_iff.mp hm
  have := List.mem_range.mp (List.mem_of_find?_eq_some ht)
  omega
theorem agree_symm {a b : List Nat} (h : agreeB a b = true) : agreeB b a = true := by
  unfold agreeB at h ⊢
  rw [Nat.min_comm]
  exact decide_eq_true (of_decide_eq_true h).symm
theorem agree_pre {a b : List Nat} (h : agreeB a b = true) (hl : a.sum ≤ b.sum) : colsL a = (colsL b).take a.sum := by
  have h1 := of_decide_eq_true h
  rw [colsL_len, colsL_len, Nat.min_eq_left hl] at h1
  rw [← h1, List.take_of_length_le (by rw [colsL_len]; exact Nat.le_refl _)]
/-- the greatest number of characters -/
def mxs (lss : List (List Nat)) : Nat := (lss.map List.sum).foldl max 0
theorem foldl_max (l : List Nat) : ∀ a : Nat, a ≤ l.foldl max a ∧ (∀ x ∈ l, x ≤ l.foldl max a) ∧ (l.foldl max a = a ∨ l.foldl max a ∈ l) := by
  induction l with
  | nil => exact fun a => ⟨Nat.le_refl _, fun x hx => (by cases hx), .inl rfl⟩
  | cons y l ih =>
    intro a
    obtain ⟨h1, h2, h3⟩ := ih (max a y)
    refine ⟨by simp only [List.foldl_cons]; omega, fun x hx => ?_, ?_⟩
    · simp only [List.foldl_cons]
      rcases List.mem_cons.mp hx with hx | hx
      · omega
      · exact h2 x hx
    · simp only [List.foldl_cons]
      rcases h3 with h3 | h3
      · rw [h3]
        rcases Nat.le_total a y with z | z
        · rw [Nat.max_eq_right z]
          exact .inr List.mem_cons_self
        · rw [Nat.max_eq_left z]
          exact .inl rfl
      · exact .inr (List.mem_cons_of_mem _ h3)
theorem mxs_ge {lss : List (List Nat)} {l : List Nat} (h : l ∈ lss) : l.sum ≤ mxs lss := (foldl_max _ 0).2.1 _ (List.mem_map_of_mem h)
theorem mxs_uniq {lss : List (List Nat)} (hn : lss ≠ []) {m : Nat} (hm : m ∈ lss.map List.sum) (hu : ∀ y ∈ lss.map List.sum, y ≤ m) : m = mxs lss := by
  have h1 : m ≤ mxs lss := (foldl_max _ 0).2.1 _ hm
  have h2 : mxs lss ≤ m := by
    rcases (foldl_max (lss.map List.sum) 0).2.2 with h | h
    · have : mxs lss = 0 := h
      omega
    · exact hu _ h
  omega
def lngs (lss : List (List Nat)) : List Nat := (List.range lss.length).filter fun i => decide ((lss.getD i []).sum = mxs lss)
theorem lngs_ne {lss : List (List Nat)} (hn : lss ≠ []) : ∃ i t, lngs lss = i :: t ∧ i < lss.length ∧ (lss.getD i []).sum = mxs lss := by
  have hx : ∃ l ∈ lss, l.sum = mxs lss := by
    rcases (foldl_max (lss.map List.sum) 0).2.2 with h | h
    · cases lss with
      | nil => exact absurd rfl hn
      | cons l t =>
        refine ⟨l, List.mem_cons_self, ?_⟩
        have h1 := mxs_ge (lss := l :: t) (l := l) List.mem_cons_self
        have h2 : mxs (l :: t) = 0 := h
        omega
    · obtain ⟨l, hl, e⟩ := List.mem_map.mp h
      exact ⟨l, hl, e⟩
  obtain ⟨l, hl, e⟩ := hx
  obtain ⟨i, hi⟩ := List.getElem?_of_mem hl
  have hlt := (List.getElem?_eq_some_iff.mp hi).1
  have hg : lss.getD i [] = l := by rw [List.getD_eq_getElem?_getD, hi]; rfl
  have hm : i ∈ lngs lss := List.mem_filter.mpr ⟨List.mem_range.mpr hlt, by rw [hg]; exact decide_eq_true e⟩
  cases q : lngs lss with
  | nil => rw [q] at hm; cases hm
  | cons j t =>
    have hj : j ∈ lngs lss := by rw [q]; exact List.mem_cons_self
    have := List.mem_filter.mp hj
    exact ⟨j, t, rfl, List.mem_range.mp this.1, of_decide_eq_true this.2⟩
def lngI (lss : List (List Nat)) : Nat := (lngs lss).headD 0
def lng (lss : List (List Nat)) : List Nat := lss.getD (lngI lss) []
theorem lng_at {lss : List (List Nat)} (hn : lss ≠ []) : lngI lss < lss.length ∧ lss[lngI lss]? = some (lng lss) ∧ (lng lss).sum = mxs lss := by
  obtain ⟨i, t, h1, h2, h3⟩ := lngs_ne hn
  have e : lngI lss = i := by unfold lngI; rw [h1]; rfl
  rw [e]
  refine ⟨h2, ?_, ?_⟩
  · unfold lng
    rw [e, List.getD_eq_getElem?_getD, List.getElem?_eq_getElem h2]
    rfl
  · unfold lng
    rw [e]
    exact h3
/-- read together: the list for the longest line gives the pieces of each -/
theorem group_brk {lss : List (List Nat)} (hn : lss ≠ []) (hp : ∀ l ∈ lss, Pos l ∧ l ≠ []) (hc : clash lss = none) (ho : obst (colF (lng lss)) (lng lss).sum = none) {l : List Nat} (hl : l ∈ lss) : brk (desc (colF (lng lss)) (lng lss).sum) l.sum = l := by
  obtain ⟨hi, hget, hs⟩ := lng_at hn
  have hm : lng lss ∈ lss := List.mem_of_getElem? hget
  have hle : l.sum ≤ (lng lss).sum := by rw [hs]; exact mxs_ge hl
  refine desc_brk (hp _ hm).1 (hp _ hm).2 ho (hp _ hl).1 hle ?_
  obtain ⟨j, hj⟩ := List.getElem?_of_mem hl
  have hlt := (List.getElem?_eq_some_iff.mp hj).1
  have ej : lss.getD j [] = l := by rw [List.getD_eq_getElem?_getD, hj]; rfl
  have ei : lss.getD (lngI lss) [] = lng lss := rfl
  refine agree_pre ?_ hle
  rcases Nat.lt_trichotomy j (lngI lss) with z | z | z
  · have := clash_none hc z hi
    rw [ej, ei] at this
    exact this
  · have : l = lng lss := by rw [← ej, z]; rfl
    rw [this]
    unfold agreeB
    simp
  · have := clash_none hc z hlt
    rw [ej, ei] at this
    exact agree_symm this
end Hw

namespace Lw
open PySem PySem.Spec PyProof.Rows L2 Evl Hw
def top (i : Nat) : Stmt := PySem.Challenge.pw_hardwraps_k42_lines_read_together.main.body.getD i (.Pass ⟨0, 0, 0, 0⟩)
abbrev s_is_integer : Stmt := top 6
theorem sc_is_integer : FnScope ["value", "low", "high"] ["value", "low", "high"] (defScope s_is_integer) :=
  ⟨rfl, rfl, rfl, by decide +kernel, rfl, by decide +kernel, by decide +kernel⟩
abbrev s_border_lengths : Stmt := top 8
theorem sc_border_lengths : FnScope ["values", "found", "end", "border"] ["values"] (defScope s_border_lengths) :=
  ⟨rfl, rfl, rfl, by decide +kernel, rfl, by decide +kernel, by decide +kernel⟩
abbrev s_descent_of : Stmt := top 10
theorem sc_descent_of : FnScope ["values", "borders", "length", "found"] ["values"] (defScope s_descent_of) :=
  ⟨rfl, rfl, rfl, by decide +kernel, rfl, by decide +kernel, by decide +kernel⟩
abbrev s_is_pieces : Stmt := top 15
theorem sc_is_pieces : FnScope ["value", "size"] ["value"] (defScope s_is_pieces) :=
  ⟨rfl, rfl, rfl, by decide +kernel, rfl, by decide +kernel, by decide +kernel⟩
abbrev s_require_pieces : Stmt := top 16
theorem sc_require_pieces : FnScope ["pieces"] ["pieces"] (defScope s_require_pieces) :=
  ⟨rfl, rfl, rfl, by decide +kernel, rfl, by decide +kernel, by decide +kernel⟩
abbrev s_columns_of : Stmt := top 17
theorem sc_columns_of : FnScope ["sizes", "found", "size"] ["sizes"] (defScope s_columns_of) :=
  ⟨rfl, rfl, rfl, by decide +kernel, rfl, by decide +kernel, by decide +kernel⟩
abbrev s_first_piece_of : Stmt := top 18
theorem sc_first_piece_of : FnScope ["values", "zeros", "position", "value"] ["values"] (defScope s_first_piece_of) :=
  ⟨rfl, rfl, rfl, by decide +kernel, rfl, by decide +kernel, by decide +kernel⟩
abbrev s_first_obstacle_of : Stmt := top 19
theorem sc_first_obstacle_of : FnScope ["values", "borders", "length"] ["values"] (defScope s_first_obstacle_of) :=
  ⟨rfl, rfl, rfl, by decide +kernel, rfl, by decide +kernel, by decide +kernel⟩
abbrev s_first_obstacle : Stmt := top 20
theorem sc_first_obstacle : FnScope ["pieces"] ["pieces"] (defScope s_first_obstacle) :=
  ⟨rfl, rfl, rfl, by decide +kernel, rfl, by decide +kernel, by decide +kernel⟩
abbrev s_shortest_widths : Stmt := top 21
theorem sc_shortest_widths : FnScope ["pieces", "values", "obstacle"] ["pieces"] (defScope s_shortest_widths) :=
  ⟨rfl, rfl, rfl, by decide +kernel, rfl, by decide +kernel, by decide +kernel⟩
abbrev s_do_agree : Stmt := top 22
theorem sc_do_agree : FnScope ["one", "other", "common"] ["one", "other"] (defScope s_do_agree) :=
  ⟨rfl, rfl, rfl, by decide +kernel, rfl, by decide +kernel, by decide +kernel⟩
abbrev s_shortest_for_lines : Stmt := top 23
theorem sc_shortest_for_lines : FnScope ["lines", "line", "found", "first", "one", "second", "longest"] ["lines"] (defScope s_shortest_for_lines) :=
  ⟨rfl, rfl, rfl, by decide +kernel, rfl, by decide +kernel, by decide +kernel⟩
abbrev s__law_bag : Stmt := top 25
theorem sc__law_bag : FnScope ["script", "k", "cell"] ["script", "k"] (defScope s__law_bag) :=
  ⟨rfl, rfl, rfl, by decide +kernel, rfl, by decide +kernel, by decide +kernel⟩
abbrev s__law_take : Stmt := top 26
theorem sc__law_take : FnScope ["bag", "many", "found", "mixed"] ["bag", "many"] (defScope s__law_take) :=
  ⟨rfl, rfl, rfl, by decide +kernel, rfl, by decide +kernel, by decide +kernel⟩
abbrev s__law_chain : Stmt := top 27
theorem sc__law_chain : FnScope ["bag", "most", "top", "found", "style", "k", "last", "below", "part"] ["bag", "most", "top"] (defScope s__law_chain) :=
  ⟨rfl, rfl, rfl, by decide +kernel, rfl, by decide +kernel, by decide +kernel⟩
abbrev s__law_broken : Stmt := top 28
theorem sc__law_broken : FnScope ["chain", "span", "sizes", "width", "later", "size", "many", "rest"] ["chain", "span"] (defScope s__law_broken) :=
  ⟨rfl, rfl, rfl, by decide +kernel, rfl, by decide +kernel, by decide +kernel⟩
abbrev s__law_cols : Stmt := top 29
theorem sc__law_cols : FnScope ["sizes", "found", "size"] ["sizes"] (defScope s__law_cols) :=
  ⟨rfl, rfl, rfl, by decide +kernel, rfl, by decide +kernel, by decide +kernel⟩
abbrev s__law_clash : Stmt := top 30
theorem sc__law_clash : FnScope ["group", "found", "one", "two", "common", "sizes"] ["group"] (defScope s__law_clash) :=
  ⟨rfl, rfl, rfl, by decide +kernel, rfl, by decide +kernel, by decide +kernel⟩
abbrev s__law_told : Stmt := top 31
theorem sc__law_told : FnScope ["group", "e"] ["group"] (defScope s__law_told) :=
  ⟨rfl, rfl, rfl, by decide +kernel, rfl, by decide +kernel, by decide +kernel⟩
abbrev s_law : Stmt := top 32
theorem sc_law : FnScope ["script", "k", "bag", "turn", "chain", "many", "group", "spot", "way", "place", "kept", "due", "longest", "told", "each", "sizes"] ["script"] (defScope s_law) :=
  ⟨rfl, rfl, rfl, by decide +kernel, rfl, by decide +kernel, by decide +kernel⟩
abbrev s_NotWrapped___init__ : Stmt := inClass (top 3) 0
theorem sc_NotWrapped___init__ : FnScope ["self", "position"] ["self", "position"] (defScope s_NotWrapped___init__) :=
  ⟨rfl, rfl, rfl, by decide +kernel, rfl, by decide +kernel, by decide +kernel⟩
abbrev s_Conflict___init__ : Stmt := inClass (top 4) 0
theorem sc_Conflict___init__ : FnScope ["self", "first", "second"] ["self", "first", "second"] (defScope s_Conflict___init__) :=
  ⟨rfl, rfl, rfl, by decide +kernel, rfl, by decide +kernel, by decide +kernel⟩
/-- what stands behind the top -/
structure Env (K : PySem.W.Frag) (mg : Str → Option Value) : Prop where
  g_is_integer : mg "is_integer" = some (.ref (He.ga K "is_integer"))
  g_border_lengths : mg "border_lengths" = some (.ref (He.ga K "border_lengths"))
  g_descent_of : mg "descent_of" = some (.ref (He.ga K "descent_of"))
  g_is_pieces : mg "is_pieces" = some (.ref (He.ga K "is_pieces"))
  g_require_pieces : mg "require_pieces" = some (.ref (He.ga K "require_pieces"))
  g_columns_of : mg "columns_of" = some (.ref (He.ga K "columns_of"))
  g_first_piece_of : mg "first_piece_of" = some (.ref (He.ga K "first_piece_of"))
  g_first_obstacle_of : mg "first_obstacle_of" = some (.ref (He.ga K "first_obstacle_of"))
  g_first_obstacle : mg "first_obstacle" = some (.ref (He.ga K "first_obstacle"))
  g_shortest_widths : mg "shortest_widths" = some (.ref (He.ga K "shortest_widths"))
  g_do_agree : mg "do_agree" = some (.ref (He.ga K "do_agree"))
  g_shortest_for_lines : mg "shortest_for_lines" = some (.ref (He.ga K "shortest_for_lines"))
  g__law_bag : mg "_law_bag" = some (.ref (He.ga K "_law_bag"))
  g__law_take : mg "_law_take" = some (.ref (He.ga K "_law_take"))
  g__law_chain : mg "_law_chain" = some (.ref (He.ga K "_law_chain"))
  g__law_broken : mg "_law_broken" = some (.ref (He.ga K "_law_broken"))
  g__law_cols : mg "_law_cols" = some (.ref (He.ga K "_law_cols"))
  g__law_clash : mg "_law_clash" = some (.ref (He.ga K "_law_clash"))
  g__law_told : mg "_law_told" = some (.ref (He.ga K "_law_told"))
  g_law : mg "law" = some (.ref (He.ga K "law"))
  c_MAX_PIECES : ∃ t, mg "MAX_PIECES" = some (.int 400 t)
  c_MAX_CHARACTERS : ∃ t, mg "MAX_CHARACTERS" = some (.int 10000 t)
  c_MAX_LINES : ∃ t, mg "MAX_LINES" = some (.int 40 t)
  g_WrapError : mg "WrapError" = some (.ref (He.ga K "WrapError"))
  g_InvalidPieces : mg "InvalidPieces" = some (.ref (He.ga K "InvalidPieces"))
  g_NotWrapped : mg "NotWrapped" = some (.ref (He.ga K "NotWrapped"))
  g_Conflict : mg "Conflict" = some (.ref (He.ga K "Conflict"))
  n_len : mg "len" = none
  n_range : mg "range" = none
  n_isinstance : mg "isinstance" = none
  n_int : mg "int" = none
  n_list : mg "list" = none
  n_bool : mg "bool" = none
  n_all : mg "all" = none
  n_sum : mg "sum" = none
  n_max : mg "max" = none
  n_min : mg "min" = none
  n_abs : mg "abs" = none
  n_enumerate : mg "enumerate" = none
  n_divmod : mg "divmod" = none
  n_repr : mg "repr" = none
  n_ValueError : mg "ValueError" = none
  x_InvalidPieces : PySem.W.excIn K (He.ga K "InvalidPieces") He.veBase "ValueError.__new__" = true ∧ PySem.W.keepIn K (.ref (He.ga K "InvalidPieces")) = true ∧ PySem.W.subIn K (.ref (He.ga K "InvalidPieces")) (.type "BaseException") = some true ∧ PySem.W.typeIn K (.ref (He.ga K "InvalidPieces")) = some (.type "type")
  m_NotWrapped___init__ : Meth K (He.ga K "NotWrapped") "__init__" (He.ma K (He.ga K "NotWrapped") "__init__")
  a_NotWrapped_position : PySem.W.findIn K (.ref (He.ga K "NotWrapped")) "position" = some none
  m_Conflict___init__ : Meth K (He.ga K "Conflict") "__init__" (He.ma K (He.ga K "Conflict") "__init__")
  a_Conflict_first : PySem.W.findIn K (.ref (He.ga K "Conflict")) "first" = some none
  a_Conflict_second : PySem.W.findIn K (.ref (He.ga K "Conflict")) "second" = some none
  e_InvalidPieces_Conflict : PySem.W.exmOne K (.ref (He.ga K "InvalidPieces")) (.ref (He.ga K "Conflict")) = some false
  e_InvalidPieces_NotWrapped : PySem.W.exmOne K (.ref (He.ga K "InvalidPieces")) (.ref (He.ga K "NotWrapped")) = some false
  e_NotWrapped_Conflict : PySem.W.exmOne K (.ref (He.ga K "NotWrapped")) (.ref (He.ga K "Conflict")) = some false
  e_NotWrapped_NotWrapped : PySem.W.exmOne K (.ref (He.ga K "NotWrapped")) (.ref (He.ga K "NotWrapped")) = some true
  e_Conflict_Conflict : PySem.W.exmOne K (.ref (He.ga K "Conflict")) (.ref (He.ga K "Conflict")) = some true
  e_Conflict_NotWrapped : PySem.W.exmOne K (.ref (He.ga K "Conflict")) (.ref (He.ga K "NotWrapped")) = some false
  d_is_integer : ∃ fd, FunD K "is_integer" "is_integer" (defArgs s_is_integer) (defBody s_is_integer) (defScope s_is_integer) [] [] (He.ga K "is_integer") fd
  d_border_lengths : ∃ fd, FunD K "border_lengths" "border_lengths" (defArgs s_border_lengths) (defBody s_border_lengths) (defScope s_border_lengths) [] [] (He.ga K "border_lengths") fd
  d_descent_of : ∃ fd, FunD K "descent_of" "descent_of" (defArgs s_descent_of) (defBody s_descent_of) (defScope s_descent_of) [] [] (He.ga K "descent_of") fd
  d_is_pieces : ∃ fd, FunD K "is_pieces" "is_pieces" (defArgs s_is_pieces) (defBody s_is_pieces) (defScope s_is_pieces) [] [] (He.ga K "is_pieces") fd
  d_require_pieces : ∃ fd, FunD K "require_pieces" "require_pieces" (defArgs s_require_pieces) (defBody s_require_pieces) (defScope s_require_pieces) [] [] (He.ga K "require_pieces") fd
  d_columns_of : ∃ fd, FunD K "columns_of" "columns_of" (defArgs s_columns_of) (defBody s_columns_of) (defScope s_columns_of) [] [] (He.ga K "columns_of") fd
  d_first_piece_of : ∃ fd, FunD K "first_piece_of" "first_piece_of" (defArgs s_first_piece_of) (defBody s_first_piece_of) (defScope s_first_piece_of) [] [] (He.ga K "first_piece_of") fd
  d_first_obstacle_of : ∃ fd, FunD K "first_obstacle_of" "first_obstacle_of" (defArgs s_first_obstacle_of) (defBody s_first_obstacle_of) (defScope s_first_obstacle_of) [] [] (He.ga K "first_obstacle_of") fd
  d_first_obstacle : ∃ fd, FunD K "first_obstacle" "first_obstacle" (defArgs s_first_obstacle) (defBody s_first_obstacle) (defScope s_first_obstacle) [] [] (He.ga K "first_obstacle") fd
  d_shortest_widths : ∃ fd, FunD K "shortest_widths" "shortest_widths" (defArgs s_shortest_widths) (defBody s_shortest_widths) (defScope s_shortest_widths) [] [] (He.ga K "shortest_widths") fd
  d_do_agree : ∃ fd, FunD K "do_agree" "do_agree" (defArgs s_do_agree) (defBody s_do_agree) (defScope s_do_agree) [] [] (He.ga K "do_agree") fd
  d_shortest_for_lines : ∃ fd, FunD K "shortest_for_lines" "shortest_for_lines" (defArgs s_shortest_for_lines) (defBody s_shortest_for_lines) (defScope s_shortest_for_lines) [] [] (He.ga K "shortest_for_lines") fd
  d__law_bag : ∃ fd, FunD K "_law_bag" "_law_bag" (defArgs s__law_bag) (defBody s__law_bag) (defScope s__law_bag) [] [] (He.ga K "_law_bag") fd
  d__law_take : ∃ fd, FunD K "_law_take" "_law_take" (defArgs s__law_take) (defBody s__law_take) (defScope s__law_take) [] [] (He.ga K "_law_take") fd
  d__law_chain : ∃ fd, FunD K "_law_chain" "_law_chain" (defArgs s__law_chain) (defBody s__law_chain) (defScope s__law_chain) [] [] (He.ga K "_law_chain") fd
  d__law_broken : ∃ fd, FunD K "_law_broken" "_law_broken" (defArgs s__law_broken) (defBody s__law_broken) (defScope s__law_broken) [] [] (He.ga K "_law_broken") fd
  d__law_cols : ∃ fd, FunD K "_law_cols" "_law_cols" (defArgs s__law_cols) (defBody s__law_cols) (defScope s__law_cols) [] [] (He.ga K "_law_cols") fd
  d__law_clash : ∃ fd, FunD K "_law_clash" "_law_clash" (defArgs s__law_clash) (defBody s__law_clash) (defScope s__law_clash) [] [] (He.ga K "_law_clash") fd
  d__law_told : ∃ fd, FunD K "_law_told" "_law_told" (defArgs s__law_told) (defBody s__law_told) (defScope s__law_told) [] [] (He.ga K "_law_told") fd
  d_law : ∃ fd, FunD K "law" "law" (defArgs s_law) (defBody s_law) (defScope s_law) [] [] (He.ga K "law") fd
  d_NotWrapped___init__ : ∃ fd, FunD K "__init__" "NotWrapped.__init__" (defArgs s_NotWrapped___init__) (defBody s_NotWrapped___init__) (defScope s_NotWrapped___init__) [] [] (He.ma K (He.ga K "NotWrapped") "__init__") fd
  d_Conflict___init__ : ∃ fd, FunD K "__init__" "Conflict.__init__" (defArgs s_Conflict___init__) (defBody s_Conflict___init__) (defScope s_Conflict___init__) [] [] (He.ma K (He.ga K "Conflict") "__init__") fd
  o_NotWrapped : OexC K (He.ga K "NotWrapped") ∧ XfC K (He.ga K "NotWrapped")
  o_Conflict : OexC K (He.ga K "Conflict") ∧ XfC K (He.ga K "Conflict")

/-! ### numbers that are not negative -/
theorem rv_addN {x y : Nat} {H : Hp} : RV (rI0 fun i j => .int (i + j)) (.int (x : Int)) (.int (y : Int)) H (.int ((x + y : Nat) : Int)) := by
  rw [Int.natCast_add]
  exact rv_I0
theorem rv_subN {x y : Nat} {H : Hp} (h : y ≤ x) : RV (rI0 fun i j => .int (i - j)) (.int (x : Int)) (.int (y : Int)) H (.int ((x - y : Nat) : Int)) := by
  rw [Int.natCast_sub h]
  exact rv_I0
theorem rv_mulN {x y : Nat} {H : Hp} (h : x < 2 ^ 64 ∨ y < 2 ^ 64) : RV (rI CMul fun i j => .int (i * j)) (.int (x : Int)) (.int (y : Int)) H (.int ((x * y : Nat) : Int)) := by
  rw [Int.natCast_mul]
  refine rv_I ?_
  rcases h with h | h
  · exact .inl ⟨by omega, by omega⟩
  · exact .inr ⟨by omega, by omega⟩
theorem rv_modN {x y : Nat} {H : Hp} (h : 0 < y) : RV (rI (fun _ j => 0 < j) fun i j => .int (i % j)) (.int (x : Int)) (.int (y : Int)) H (.int ((x % y : Nat) : Int)) := by
  rw [Int.natCast_emod]
  exact rv_I (by omega)
theorem rv_fdivN {x y b : Nat} {H : Hp} (h : 0 < y) (hb : y < 2 ^ b) (h0 : 0 < b) (h9 : b ≤ 9000) : RV (rI CDivW fun i j => .int (i / j)) (.int (x : Int)) (.int (y : Int)) H (.int ((x / y : Nat) : Int)) := by
  rw [Int.natCast_ediv]
  exact rv_I (wide_div (b := b) (by omega) (by rw [Int.natAbs_natCast]; exact hb) h0 h9)
theorem rv_powN {x y b : Nat} {H : Hp} (h : x < 2 ^ b) (h0 : 0 < b) (hb : b * y ≤ 2 ^ 27) : RV (rI CPowW fun i j => .int (i ^ j.toNat)) (.int (x : Int)) (.int (y : Int)) H (.int ((x ^ y : Nat) : Int)) := by
  rw [Int.natCast_pow]
  have := rv_I (g := fun i j => V.int (i ^ j.toNat)) (H := H) (cpow (i := (x : Int)) (k := y) (by rw [Int.natAbs_natCast]; exact h) h0 hb)
  rw [Int.toNat_natCast] at this
  exact this
theorem ev_n {σ : L2.St} {H : Hp} (n : Nat) : Ev (tC (.int (n : Int))) σ H (.int (n : Int)) := ev_c
/-! ### module wrapping -/
section
variable {P : Program} {w : World} {K : PySem.W.Frag} {mg : Str → Option Value} {base : Heap}
def Wd (ws : List Nat) : Prop := ∀ x ∈ ws, 0 < x ∧ x ≤ 10000
theorem Wd.pos {ws : List Nat} (h : Wd ws) : Pos ws := fun x hx => (h x hx).1
def sp_is_integer (K : PySem.W.Frag) : Sp := fun vs H Q _ => ∃ x lo hi : Int, vs = [.int x, .int lo, .int hi] ∧ RetV (.bl (decide (lo ≤ x) && decide (x ≤ hi))) H Q
theorem ok_is_integer (T : Env K mg) : Callee P w K mg base CX0 1 "is_integer" ["value", "low", "high"] [] (sp_is_integer K) := by
  refine callee_of T.g_is_integer T.d_is_integer sc_is_integer (fun _ _ _ _ _ _ us hl => match us, hl with | [_, _, _], _ => rfl) (fun vs H Q E h => by first | (obtain ⟨rfl, _⟩ := h; rfl) | (obtain ⟨_, rfl, _⟩ := h; rfl) | (obtain ⟨_, _, rfl, _⟩ := h; rfl) | (obtain ⟨_, _, _, rfl, _⟩ := h; rfl) | (obtain ⟨_, _, _, _, rfl, _⟩ := h; rfl) | (obtain ⟨_, _, _, _, _, rfl, _⟩ := h; rfl) | (obtain ⟨_, _, _, _, _, _, rfl, _⟩ := h; rfl) | (obtain ⟨_, _, _, _, _, _, _, rfl, _⟩ := h; rfl) | (obtain ⟨_, _, _, _, _, _, _, _, rfl, _⟩ := h; rfl)) ?_
  intro cdv f A outer s H vs Q E hr h
  refine ⟨_, (pss_one (ps_ret (pe_and (pe_callB call_isi (by rfl) T.n_isinstance (by decide +kernel) (pa_cons (pv 0) (pa_cons (pe_bltn (v := .ty "int") (by rfl) T.n_int (by decide +kernel) rfl) pa_nil))) (pe_and (pe_not (pe_callB call_isi (by rfl) T.n_isinstance (by decide +kernel) (pa_cons (pv 0) (pa_cons (pe_bltn (v := .ty "bool") (by rfl) T.n_bool (by decide +kernel) rfl) pa_nil)))) (pe_one (pe_chain op_le op_le (pv 1) (pv 0) (pv 2))))))), ?_⟩
  obtain ⟨x, lo, hi, rfl, q⟩ := h
  refine s_ret (v := .bl (true && (!false && (decide (lo ≤ x) && decide (x ≤ hi))))) ?_ q
  refine ev_andV ?_ fun _ => ev_andV (ev_notV ?_) fun _ => ?_
  · refine ev_cb (ea_cons (ev_var rfl) (ea_cons ev_c ea_nil)) (rc_isi_int (by decide +kernel))
  · refine ev_cb (ea_cons (ev_var rfl) (ea_cons ev_c ea_nil)) (rc_isi_int (by decide +kernel))
  · exact ev_chain (ev_var rfl) (ev_var rfl) rv_I0 fun _ => ⟨ev_var rfl, rv_I0⟩
def sp_is_width (K : PySem.W.Frag) : Sp := fun vs H Q _ => ∃ x : Int, vs = [.int x] ∧ RetV (.bl (decide (1 ≤ x) && decide (x ≤ 10000))) H Q
def sp_is_widths (K : PySem.W.Frag) : Sp := fun vs H Q _ => ∃ (a : Addr) (ws : List Nat), vs = [.ref a] ∧ SqL K H a (nl ws) ∧ Wd ws ∧ ws.length ≤ 1000 ∧ RetV (.bl true) H Q
theorem et_yes {σ : L2.St} {H : Hp} : EvT tYes σ H true := fun H1 _ _ q => q H1 (Ex.refl H1)
theorem given_all (n : Nat) (v : Nat → V) : given n (fun _ => true) v = (List.range n).map v := by
  unfold given
  rw [List.filter_eq_self.mpr (by simp)]
def sp_require_widths (K : PySem.W.Frag) : Sp := fun vs H Q _ => ∃ (a : Addr) (ws : List Nat), vs = [.ref a] ∧ SqL K H a (nl ws) ∧ Wd ws ∧ ws.length ≤ 1000 ∧ RetV .non H Q
def sp_require_position (K : PySem.W.Frag) : Sp := fun vs H Q _ => ∃ n : Nat, vs = [.int n] ∧ n ≤ 10 ^ 30 ∧ RetV .non H Q
def sp_require_length (K : PySem.W.Frag) : Sp := fun vs H Q _ => ∃ (n lo hi : Int), vs = [.int n, .int lo, .int hi] ∧ lo ≤ n ∧ n ≤ hi ∧ RetV .non H Q
def sp_column_of (K : PySem.W.Frag) : Sp := fun vs H Q _ => ∃ (a : Addr) (ws : List Nat) (p : Nat), vs = [.ref a, .int p] ∧ SqL K H a (nl ws) ∧ Pos ws ∧ RetV (.int (col ws p : Nat)) H Q
theorem col_take {ws : List Nat} {i n : Nat} (h : ws[i]? = some n) (p : Nat) : col (ws.take (i + 1)) p = col (ws.take i) p % n := by
  rw [List.take_add_one, h]
  exact col_snoc _ _ _
def sp_effective_of (K : PySem.W.Frag) : Sp := fun vs H Q _ => ∃ (a : Addr) (ws : List Nat), vs = [.ref a] ∧ SqL K H a (nl ws) ∧ ws.length ≤ 1000 ∧ RetL (nl (eff ws)) H Q
theorem eff_take {ws : List Nat} {i n : Nat} (h : ws[i]? = some n) : eff (ws.take (i + 1)) = effStep (eff (ws.take i)) n := by
  rw [List.take_add_one, h]
  exact eff_snoc _ _
theorem eff_take_len (ws : List Nat) (i : Nat) : (eff (ws.take i)).length ≤ i := by
  have h1 := eff_len (ws.take i)
  have h2 : (ws.take i).length ≤ i := by simp; omega
  omega
def sp_column (K : PySem.W.Frag) : Sp := fun vs H Q _ => ∃ (a : Addr) (ws : List Nat) (p : Nat), vs = [.ref a, .int p] ∧ SqL K H a (nl ws) ∧ Wd ws ∧ ws.length ≤ 1000 ∧ p ≤ 10 ^ 30 ∧ RetV (.int (col ws p : Nat)) H Q
def cols (ws : List Nat) (n : Nat) : List Nat := (List.range n).map (col ws)
theorem cols_len (ws : List Nat) (n : Nat) : (cols ws n).length = n := by simp [cols]
theorem cols_get {ws : List Nat} {n i : Nat} (h : i < n) : (cols ws n)[i]? = some (col ws i) := by simp [cols, h]
theorem cols_given (ws : List Nat) (n : Nat) : given ((n : Int)).toNat (fun _ => true) (fun i => V.int (col ws i : Nat)) = nl (cols ws n) := by
  rw [given_all]
  simp [nl, cols]
def sp_columns (K : PySem.W.Frag) : Sp := fun vs H Q _ => ∃ (a : Addr) (ws : List Nat) (n : Nat), vs = [.ref a, .int n] ∧ SqL K H a (nl ws) ∧ Wd ws ∧ ws.length ≤ 1000 ∧ n ≤ 1000 ∧ RetL (nl (cols ws n)) H Q
def sp_effective (K : PySem.W.Frag) : Sp := fun vs H Q _ => ∃ (a : Addr) (ws : List Nat), vs = [.ref a] ∧ SqL K H a (nl ws) ∧ Wd ws ∧ ws.length ≤ 1000 ∧ RetL (nl (eff ws)) H Q
end

/-! ### module periods -/
section
variable {P : Program} {w : World} {K : PySem.W.Frag} {mg : Str → Option Value} {base : Heap}
def at_ (vs : List Nat) (i : Nat) : Nat := vs.getD i 0
theorem at_lt {vs : List Nat} {i : Nat} (h : i < vs.length) : vs[i]? = some (at_ vs i) := by
  unfold at_
  simp [List.getD, h]
theorem atI_at {vs : List Nat} {i : Nat} (h : i < vs.length) : atI (nl vs) (i : Int) = some (.int (at_ vs i : Nat)) := atI_nlD h
def lbs (f : Nat → Nat) (n : Nat) : List Nat := (List.range n).map (lb f)
theorem lbs_len (f : Nat → Nat) (n : Nat) : (lbs f n).length = n := by simp [lbs]
theorem lbs_at {f : Nat → Nat} {n i : Nat} (h : i < n) : (lbs f n)[i]? = some (lb f i) := by simp [lbs, h]
theorem lbs_succ (f : Nat → Nat) (n : Nat) : lbs f (n + 1) = lbs f n ++ [lb f n] := by simp [lbs, List.range_succ]
theorem lbs_take (f : Nat → Nat) (n k : Nat) : (lbs f n).take k = lbs f (min k n) := by
  unfold lbs
  rw [← List.map_take, List.take_range]
theorem nl_at {ws : List Nat} {i n : Nat} (h : ws[i]? = some n) : atI (nl ws) (i : Int) = some (.int (n : Int)) := by
  refine atI_nat ?_
  unfold nl
  rw [List.getElem?_map, h]
  rfl
theorem rc_lenN {K : PySem.W.Frag} {H : Hp} {a : Addr} {ws : List Nat} (hs : SqL K H a (nl ws)) : RC (fun xs H Q => ∃ p ys, xs = [.ref p] ∧ (SqL K H p ys ∨ SqT K H p ys) ∧ Q (.int ys.length) H) [.ref a] H (.int (ws.length : Int)) := by
  have := rc_len hs
  rw [nl_len] at this
  exact this
theorem dec_vint (x y : Nat) : decide (V.int (x : Int) = V.int (y : Int)) = decide (x = y) := by
  by_cases h : x = y
  · subst h; simp
  · rw [decide_eq_false h, decide_eq_false]
    intro e
    injection e with e
    omega
def sp_border_lengths (K : PySem.W.Frag) : Sp := fun vs H Q _ => ∃ (a : Addr) (xs : List Nat), vs = [.ref a] ∧ SqL K H a (nl xs) ∧ xs.length ≤ 40000 ∧ RetL (nl (lbs (at_ xs) (xs.length + 1))) H Q
theorem ok_border_lengths (T : Env K mg) : Callee P w K mg base CX0 1 "border_lengths" ["values"] [] (sp_border_lengths K) := by
  refine callee_of T.g_border_lengths T.d_border_lengths sc_border_lengths (fun _ _ _ _ _ _ us hl => match us, hl with | [_], _ => rfl) (fun vs H Q E h => by first | (obtain ⟨rfl, _⟩ := h; rfl) | (obtain ⟨_, rfl, _⟩ := h; rfl) | (obtain ⟨_, _, rfl, _⟩ := h; rfl) | (obtain ⟨_, _, _, rfl, _⟩ := h; rfl) | (obtain ⟨_, _, _, _, rfl, _⟩ := h; rfl) | (obtain ⟨_, _, _, _, _, rfl, _⟩ := h; rfl) | (obtain ⟨_, _, _, _, _, _, rfl, _⟩ := h; rfl) | (obtain ⟨_, _, _, _, _, _, _, rfl, _⟩ := h; rfl) | (obtain ⟨_, _, _, _, _, _, _, _, rfl, _⟩ := h; rfl)) ?_
  intro cdv f A outer s H vs Q E hr h
  refine ⟨_, (pss_cons (ps_set (i := 1) sc_border_lengths.nd rfl (Or.inl rfl) (pe_lst (pa_cons pe_int (pa_cons pe_int pa_nil))))
      (pss_cons (ps_for PassesOwn.never rfl (pi_range2 (by rfl) T.n_range (pa_cons pe_int (pa_cons (pe_callB call_len_seq (by rfl) T.n_len PySem.boot_len (pa_cons (pv 0) pa_nil)) pa_nil))) (pg_name (i := 2) sc_border_lengths.nd rfl (Or.inl rfl))
      (pss_cons (ps_set (i := 3) sc_border_lengths.nd rfl (Or.inl rfl) (pe_ix ix_list (pv 1) (pv 2) (fun _ _ => rfl)))
      (pss_cons (ps_while PassesOwn.never (PW.pt (pw_and (pt_cmpR op_gt (pv 3) pe_int (nomark _)) (pw_and1 (pt_cmpR op_ne (pe_ix ix_list (pv 0) (pv 3) (fun _ _ => rfl)) (pe_ix ix_list (pv 0) (pv 2) (fun _ _ => rfl)) (nomark _)))))
      (pss_one (ps_set (i := 3) sc_border_lengths.nd rfl (Or.inl rfl) (pe_ix ix_list (pv 1) (pv 3) (fun _ _ => rfl)))))
      (pss_one (ps_expr (pe_bm PySem.F.plainAttrs_list PySem.F.slot_list_append PySem.F.type_list_append mt_append (pv 1) (pa_cons (pe_op op_add (pv 3) (pe_callTy call_int1 (by rfl) T.n_int (by decide +kernel) (pa_cons (pe_cmpR op_eq (pe_ix ix_list (pv 0) (pv 3) (fun _ _ => rfl)) (pe_ix ix_list (pv 0) (pv 2) (fun _ _ => rfl)) (nomark _)) pa_nil))) pa_nil)))))))
      (pss_one (ps_ret (pe_slice sl_list (pv 1) po_none (po_some (pe_op op_add (pe_callB call_len_seq (by rfl) T.n_len PySem.boot_len (pa_cons (pv 0) pa_nil)) pe_int))))))), ?_⟩
  obtain ⟨a, xs, rfl, hs, hl, q⟩ := h
  refine q_asgL (el_lst (ea_cons ev_c (ea_cons ev_c ea_nil)) (show 2 ≤ 100000 by decide)) fun l H1 hl0 e1 hl1 => ?_
  refine q_forR2 (lo := 1) (n := (xs.length : Int)) (ea_cons ev_c (ea_cons (ev_cb (ea_cons (ev_var rfl) ea_nil) (rc_lenN (ex_l e1 hs))) ea_nil)) (by omega)
    (fun i σ' H' => ∃ v2 v3, σ' = [some (.ref a), some (.ref l), v2, v3] ∧ Ex H H' ∧ H' l = some (.lst (nl (lbs (at_ xs) (i + 2)))))
    (fun H2 e2 => ⟨none, none, rfl, e1.trans e2, e2 _ _ hl1⟩) ?_ ?_
  · intro i σ' H' hi ⟨v2, v3, hσ, e, hf⟩
    subst hσ
    have ee : (1 : Int) + (i : Int) = ((i + 1 : Nat) : Int) := by omega
    rw [ee]
    refine q_asg (v := .int (lb (at_ xs) (i + 1) : Nat)) (ev_op (ev_var rfl) (ev_var rfl) (rv_ixL (sq_of hf) (nl_at (lbs_at (by omega))))) fun H2 e2 => ?_
    refine q_while (fun m σ2 H3 => ∃ b : Nat, m = b ∧ σ2 = [some (.ref a), some (.ref l), some (.int ((i + 1 : Nat) : Int)), some (.int (b : Int))] ∧ KmpIn (at_ xs) (i + 1) b ∧ Ex H H3 ∧ H3 l = some (.lst (nl (lbs (at_ xs) (i + 2)))))
      (lb (at_ xs) (i + 1)) ⟨_, rfl, rfl, kmp_start (by omega), e.trans e2, e2 _ _ hf⟩ ?_
    rintro m σ2 H3 ⟨b, rfl, rfl, kb, e3, hf3⟩
    have hb1 := kb.bd.1
    have hv : ∀ H4, Ex H H4 → ∀ j : Nat, j < xs.length → RV (rIxL K) (.ref a) (.int (j : Int)) H4 (.int (at_ xs j : Nat)) := fun H4 e4 j hj => rv_ixL (ex_l e4 hs) (atI_at hj)
    refine ⟨decide ((0 : Int) < (m : Int)) && !decide (V.int (at_ xs m : Nat) = V.int (at_ xs (i + 1) : Nat)), et_and (et_test (ev_op (ev_var rfl) ev_c rv_I0)) (fun _ => et_test (ev_op (ev_op (ev_var rfl) (ev_var rfl) (hv _ e3 m (by omega))) (ev_op (ev_var rfl) (ev_var rfl) (hv _ e3 (i + 1) (by omega))) (rv_ne rfl))), fun hb H4 e4 => ?_, fun hb H4 e4 => ?_⟩
    · rw [Bool.and_eq_true] at hb
      have b0 : 0 < m := by have := of_decide_eq_true hb.1; omega
      have bne : at_ xs m ≠ at_ xs (i + 1) := by
        have h2 := hb.2
        rw [dec_vint] at h2
        simpa using h2
      obtain ⟨k2, lt2⟩ := kmp_turn kb b0 bne
      refine ⟨fun σ3 H5 => σ3 = [some (.ref a), some (.ref l), some (.int ((i + 1 : Nat) : Int)), some (.int (lb (at_ xs) m : Nat))] ∧ Ex H H5 ∧ H5 l = some (.lst (nl (lbs (at_ xs) (i + 2)))), fun σ3 H5 ⟨h1, h2, h3⟩ => ⟨_, lt2, _, rfl, h1, k2, h2, h3⟩, ?_⟩
      exact s_asg (v := .int (lb (at_ xs) m : Nat)) (ev_op (ev_var rfl) (ev_var rfl) (rv_ixL (sq_of (e4 _ _ hf3)) (nl_at (lbs_at (by omega))))) fun H5 e5 => ⟨rfl, (e3.trans e4).trans e5, e5 _ _ (e4 _ _ hf3)⟩
    · have done : ¬ (0 < m ∧ at_ xs m ≠ at_ xs (i + 1)) := by
        intro z
        rw [dec_vint] at hb
        have h1 : decide ((0 : Int) < (m : Int)) = true := decide_eq_true (by omega)
        rw [h1, decide_eq_false z.2] at hb
        cases hb
      have fin := kmp_end kb done
      refine s_app (v := .int (lb (at_ xs) (i + 2) : Nat)) (e4 _ _ hf3) (ev_var rfl) ?_ (by rw [nl_len, lbs_len]; omega) fun H5 e5 => ?_
      · refine ev_is (ev_op (ev_var rfl) (ev_cb (ea_cons (ev_op (ev_op (ev_var rfl) (ev_var rfl) (hv _ (e3.trans e4) m (by omega))) (ev_op (ev_var rfl) (ev_var rfl) (hv _ (e3.trans e4) (i + 1) (by omega))) (rv_eq rfl)) ea_nil) rc_intb) rv_I0) ?_
        rw [dec_vint, fin]
        by_cases z : at_ xs m = at_ xs (i + 1)
        · simp [z]
        · simp [z]
      · refine ⟨some (.int ((i + 1 : Nat) : Int)), some (.int (m : Int)), rfl, ((e3.trans e4).trans e5).mut hl0, ?_⟩
        rw [upd_same, show i + 1 + 2 = (i + 2) + 1 from rfl, lbs_succ _ (i + 2), nl_append]
        rfl
  · rintro σ' H' ⟨v2, v3, rfl, e, hf⟩
    refine s_retL (xs := nl (lbs (at_ xs) (xs.length + 1))) ?_ fun p H2 hp e2 h2 => q p H2 (fresh_back e hp) (e.trans e2) h2
    have := el_sl (K := K) (te := tVar 1) (tl := tNoPart) (σ := [some (V.ref a), some (V.ref l), v2, v3]) (ev_var rfl) eo_none (eo_some (ev_op (ev_cb (ea_cons (ev_var (i := 0) rfl) ea_nil) (rc_lenN (ex_l e hs))) (ev_c (v := .int 1)) (rv_I0 (g := fun i j => .int (i + j))))) (sq_of hf)
    have c : cutV (nl (lbs (at_ xs) (((xs.length : Int) - 1).toNat + 2))) none (some ((xs.length : Int) + 1)) = nl (lbs (at_ xs) (xs.length + 1)) := by
      rw [show (xs.length : Int) + 1 = ((xs.length + 1 : Nat) : Int) by omega, cutV_0n, nl_take, lbs_take]
      congr 2
      omega
    rw [c] at this
    exact this
def sp_least_period_of (K : PySem.W.Frag) : Sp := fun vs H Q _ => ∃ (a : Addr) (xs : List Nat), vs = [.ref a] ∧ SqL K H a (nl xs) ∧ xs.length ≤ 40000 ∧ RetV (.int (lp (at_ xs) xs.length : Nat)) H Q
def sp_first_columns (K : PySem.W.Frag) : Sp := fun vs H Q _ => ∃ (a : Addr) (ws : List Nat) (n : Nat), vs = [.ref a, .int n] ∧ SqL K H a (nl ws) ∧ Pos ws ∧ n ≤ 40000 ∧ RetL (nl (cols ws n)) H Q
def vO : Option Nat → V
  | none => .non
  | some n => .int (n : Int)
theorem cols_at {ws : List Nat} {n i : Nat} (h : i < n) : at_ (cols ws n) i = col ws i := by
  unfold at_ cols
  simp [List.getD, h]
theorem lp_cols (ws : List Nat) (n : Nat) : lp (at_ (cols ws n)) (cols ws n).length = lp (col ws) n := by
  rw [cols_len]
  exact lp_congr fun i hi => cols_at hi
theorem ev_nilEq {K : PySem.W.Frag} {σ : L2.St} {H : Hp} {ta : TE} {a : Addr} {ws : List Nat} (ha : Ev ta σ H (.ref a)) (hs : SqL K H a (nl ws)) : Ev (tOp (rEqD K) ta (tLst tNil)) σ H (.bl (decide (ws = []))) := by
  refine ev_opL ha (el_lst ea_nil (by decide)) fun p H1 hp e1 => ?_
  have := rv_eqD (K := K) (dp_nl (ex_l e1 hs)) (dp_nl (ws := []) (sq_of hp)) (shaped_dN _) (shaped_dN _)
  rw [eqv_dN] at this
  exact this
theorem ev_nilNe {K : PySem.W.Frag} {σ : L2.St} {H : Hp} {ta : TE} {a : Addr} {ws : List Nat} (ha : Ev ta σ H (.ref a)) (hs : SqL K H a (nl ws)) : Ev (tOp (rNeD K) ta (tLst tNil)) σ H (.bl (!decide (ws = []))) := by
  refine ev_opL ha (el_lst ea_nil (by decide)) fun p H1 hp e1 => ?_
  have := rv_neD (K := K) (dp_nl (ex_l e1 hs)) (dp_nl (ws := []) (sq_of hp)) (shaped_dN _) (shaped_dN _)
  rw [eqv_dN] at this
  exact this
def sp_whole_period (K : PySem.W.Frag) : Sp := fun vs H Q _ => ∃ (a : Addr) (ws : List Nat), vs = [.ref a] ∧ SqL K H a (nl ws) ∧ Wd ws ∧ RetV (vO (wholeO ws)) H Q
theorem vO_non {o : Option Nat} : decide (vO o = .non) = o.isNone := by cases o <;> simp [vO]
theorem wholeO_le {ws : List Nat} {p : Nat} (hw : Wd ws) (h : wholeO ws = some p) : p ≤ 10000 := by
  cases ws with
  | nil => cases h
  | cons W t =>
    have := hw W List.mem_cons_self
    have e : wp (col (W :: t)) W = p := Option.some.inj h
    have := wp_le (f := col (W :: t)) (W := W)
    omega
/-- ws's columns from s on, against the first ones: the loop that searches -/
theorem dec_ne (x y : Nat) : (!decide (V.int (x : Int) = V.int (y : Int))) = decide (x ≠ y) := by
  rw [dec_vint]
  by_cases h : x = y <;> simp [h]
def sp_overlap_of (K : PySem.W.Frag) : Sp := fun vs H Q _ => ∃ (a : Addr) (ws : List Nat) (s : Nat), vs = [.ref a, .int s] ∧ SqL K H a (nl ws) ∧ Wd ws ∧ RetV (vO (overlapO ws s)) H Q
theorem Wd.eff {ws : List Nat} (h : Wd ws) : Wd (eff ws) := fun x hx => h x (eff_mem hx)
def sp_overlap (K : PySem.W.Frag) : Sp := fun vs H Q _ => ∃ (a : Addr) (ws : List Nat) (s : Nat), vs = [.ref a, .int s] ∧ SqL K H a (nl ws) ∧ Wd ws ∧ ws.length ≤ 1000 ∧ s ≤ 10 ^ 30 ∧ RetV (vO (overlapO (eff ws) s)) H Q
def sp_least_period (K : PySem.W.Frag) : Sp := fun vs H Q _ => ∃ (a : Addr) (ws : List Nat), vs = [.ref a] ∧ SqL K H a (nl ws) ∧ Wd ws ∧ ws.length ≤ 1000 ∧ RetV (vO (wholeO (eff ws))) H Q
/-- whether a period holds up to a length, by the overlap -/
def hasPer (o : Option Nat) (L p : Nat) : Bool := o.isNone || decide (L ≤ p + o.getD 0)
def sp_has_period (K : PySem.W.Frag) : Sp := fun vs H Q _ => ∃ (a : Addr) (ws : List Nat) (L p : Nat), vs = [.ref a, .int (L : Int), .int (p : Int)] ∧ SqL K H a (nl ws) ∧ Wd ws ∧ ws.length ≤ 1000 ∧ L ≤ 10 ^ 30 ∧ 1 ≤ p ∧ p ≤ 10 ^ 30 ∧ RetV (.bl (hasPer (overlapO (eff ws) p) L p)) H Q
/-- the least period up to a length, as the program reckons it -/
def pbelow (ws : List Nat) (L : Nat) : Nat := match wholeO ws with
  | none => L
  | some p => if 2 * p ≤ L then p else lp (col ws) L
def sp_period_below (K : PySem.W.Frag) : Sp := fun vs H Q _ => ∃ (a : Addr) (ws : List Nat) (L : Nat), vs = [.ref a, .int (L : Int)] ∧ SqL K H a (nl ws) ∧ Wd ws ∧ RetV (.int (pbelow ws L : Nat)) H Q
def sp_least_period_to (K : PySem.W.Frag) : Sp := fun vs H Q _ => ∃ (a : Addr) (ws : List Nat) (L : Nat), vs = [.ref a, .int (L : Int)] ∧ SqL K H a (nl ws) ∧ Wd ws ∧ ws.length ≤ 1000 ∧ 1 ≤ L ∧ L ≤ 10 ^ 30 ∧ RetV (.int (pbelow (eff ws) L : Nat)) H Q
end

/-! ### the law's numbers -/
/-- the numbers at n: two and a count, with room for k draws more -/
def Nb (n : Addr) (k : Nat) (H : Hp) : Prop := ∃ a b c : Nat, H n = some (.lst [.int (a : Int), .int (b : Int), .int (c : Int)]) ∧ b < 10 ^ 40 ∧ c + k ≤ 10 ^ 9
theorem Nb.ex {n : Addr} {k : Nat} {H H' : Hp} (h : Nb n k H) (e : Ex H H') : Nb n k H' := by
  obtain ⟨a, b, c, h1, h2⟩ := h
  exact ⟨a, b, c, e _ _ h1, h2⟩
theorem Nb.le {n : Addr} {k j : Nat} {H : Hp} (h : Nb n k H) (hj : j ≤ k) : Nb n j H := by
  obtain ⟨a, b, c, h1, h2, h3⟩ := h
  exact ⟨a, b, c, h1, h2, by omega⟩
/-- all but n stays -/
def ExB (n : Addr) (H H' : Hp) : Prop := ∀ x o, x ≠ n → H x = some o → H' x = some o
theorem ExB.refl (n : Addr) (H : Hp) : ExB n H H := fun _ _ _ h => h
theorem ExB.trans {n : Addr} {H H1 H2 : Hp} (a : ExB n H H1) (b : ExB n H1 H2) : ExB n H H2 := fun x o hx h => b x o hx (a x o hx h)
theorem ExB.of {n : Addr} {H H' : Hp} (e : Ex H H') : ExB n H H' := fun x o _ h => e x o h
theorem ExB.upd (n : Addr) (H : Hp) (o : HO) : ExB n H (upd H n o) := fun x u hx h => by
  rw [upd_ne hx]
  exact h
theorem ExB.free {n x : Addr} {H H' : Hp} (e : ExB n H H') (hx : x ≠ n) (h : H' x = none) : H x = none := by
  cases q : H x with
  | none => rfl
  | some o => rw [e x o hx q] at h; cases h
section
variable {P : Program} {w : World} {K : PySem.W.Frag} {mg : Str → Option Value} {base : Heap}
theorem ix3 {l : Addr} {x y z : V} {H H' : Hp} (h : H l = some (.lst [x, y, z])) (e : Ex H H') : RV (rIxL K) (.ref l) (.int 0) H' x ∧ RV (rIxL K) (.ref l) (.int 1) H' y ∧ RV (rIxL K) (.ref l) (.int 2) H' z :=
  ⟨rv_ixL (sq_of (e _ _ h)) (atI_nat (j := 0) rfl), rv_ixL (sq_of (e _ _ h)) (atI_nat (j := 1) rfl), rv_ixL (sq_of (e _ _ h)) (atI_nat (j := 2) rfl)⟩
def sp__law_pick (K : PySem.W.Frag) : Sp := fun vs H Q _ => ∃ (n : Addr) (bd k : Nat), vs = [.ref n, .int (bd : Int)] ∧ 0 < bd ∧ bd < 2 ^ 200 ∧ Nb n (k + 1) H ∧
  ∀ (r : Nat) (H' : Hp), r < bd → ExB n H H' → Nb n k H' → Q (.int (r : Int)) H'
def mix1 (b c : Nat) : Nat := (b + 179424673 * c) ^ 3 % (10 ^ 40 + 121)
def mix2 (b c : Nat) : Nat := (mix1 b c + 32452843 * c) ^ 2 % (10 ^ 41 + 37)
theorem mix1_lt (b c : Nat) : mix1 b c < 10 ^ 40 + 121 := Nat.mod_lt _ (by decide)
theorem mixA {b c : Nat} (hb : b < 10 ^ 40) (hc : c ≤ 10 ^ 9) : b + 179424673 * c < 2 ^ 139 :=
  Nat.lt_of_lt_of_le (Nat.add_lt_add_of_lt_of_le hb (Nat.mul_le_mul_left 179424673 hc)) (by decide)
theorem mixB (b : Nat) {c : Nat} (hc : c ≤ 10 ^ 9) : mix1 b c + 32452843 * c < 2 ^ 139 :=
  Nat.lt_of_lt_of_le (Nat.add_lt_add_of_lt_of_le (mix1_lt b c) (Nat.mul_le_mul_left 32452843 hc)) (by decide)
def sp__law_numbers (K : PySem.W.Frag) : Sp := fun vs H Q _ => ∃ (a : Addr) (ns : List Int) (k : Nat), vs = [.ref a, .int (k : Int)] ∧ SqL K H a (il ns) ∧ ns.length ≤ 1000 ∧ k ≤ 1000 ∧
  ∀ (n : Addr) (H' : Hp), H n = none → Ex H H' → Nb n (10 ^ 8) H' → Q (.ref n) H'
theorem absN (z : Int) : (if z < 0 then -z else z) = ((z.natAbs : Nat) : Int) := by
  split <;> omega
theorem il_at {ns : List Int} {i : Nat} (h : i < ns.length) : atI (il ns) (i : Int) = some (.int (ns.getD i 0)) := by
  refine atI_nat ?_
  unfold il
  rw [List.getElem?_map, List.getElem?_eq_getElem h]
  simp [List.getD, h]
theorem rc_lenI {K : PySem.W.Frag} {H : Hp} {a : Addr} {ws : List Int} (hs : SqL K H a (il ws)) : RC (fun xs H Q => ∃ p ys, xs = [.ref p] ∧ (SqL K H p ys ∨ SqT K H p ys) ∧ Q (.int ys.length) H) [.ref a] H (.int (ws.length : Int)) := by
  have := rc_len hs
  rw [il_len] at this
  exact this
end

/-! ### the second family of draws -/
section
variable {P : Program} {w : World} {K : PySem.W.Frag} {mg : Str → Option Value} {base : Heap}
def sp__law_take (K : PySem.W.Frag) : Sp := fun vs H Q _ => ∃ (n : Addr) (bd k : Nat), vs = [.ref n, .int (bd : Int)] ∧ 0 < bd ∧ bd < 2 ^ 200 ∧ Nb n (k + 1) H ∧
  ∀ (r : Nat) (H' : Hp), r < bd → ExB n H H' → Nb n k H' → Q (.int (r : Int)) H'
def tmix1 (b c : Nat) : Nat := (b + 32452867 * c) ^ 3 % (10 ^ 39 + 3)
def tmix2 (b c : Nat) : Nat := (tmix1 b c + 49979693 * c) ^ 3 % (10 ^ 38 + 133)
theorem tmix1_lt (b c : Nat) : tmix1 b c < 10 ^ 39 + 3 := Nat.mod_lt _ (by decide)
theorem tmixA {b c : Nat} (hb : b < 10 ^ 40) (hc : c ≤ 10 ^ 9) : b + 32452867 * c < 2 ^ 139 :=
  Nat.lt_of_lt_of_le (Nat.add_lt_add_of_lt_of_le hb (Nat.mul_le_mul_left 32452867 hc)) (by decide)
theorem tmixB (b : Nat) {c : Nat} (hc : c ≤ 10 ^ 9) : tmix1 b c + 49979693 * c < 2 ^ 139 :=
  Nat.lt_of_lt_of_le (Nat.add_lt_add_of_lt_of_le (tmix1_lt b c) (Nat.mul_le_mul_left 49979693 hc)) (by decide)
theorem ok__law_take (T : Env K mg) : Callee P w K mg base CX0 1 "_law_take" ["bag", "many"] [] (sp__law_take K) := by
  refine callee_of T.g__law_take T.d__law_take sc__law_take (fun _ _ _ _ _ _ us hl => match us, hl with | [_, _], _ => rfl) (fun vs H Q E h => by first | (obtain ⟨rfl, _⟩ := h; rfl) | (obtain ⟨_, rfl, _⟩ := h; rfl) | (obtain ⟨_, _, rfl, _⟩ := h; rfl) | (obtain ⟨_, _, _, rfl, _⟩ := h; rfl) | (obtain ⟨_, _, _, _, rfl, _⟩ := h; rfl) | (obtain ⟨_, _, _, _, _, rfl, _⟩ := h; rfl) | (obtain ⟨_, _, _, _, _, _, rfl, _⟩ := h; rfl) | (obtain ⟨_, _, _, _, _, _, _, rfl, _⟩ := h; rfl) | (obtain ⟨_, _, _, _, _, _, _, _, rfl, _⟩ := h; rfl)) ?_
  intro cdv f A outer s H vs Q E hr h
  refine ⟨_, (pss_cons (ps_if (pt_cmpR op_gt (pe_ix ix_list (pv 0) pe_int (fun _ _ => rfl)) pe_int (nomark _)) (pss_cons (ps_set (i := 2) sc__law_take.nd rfl (Or.inl rfl) (pe_op op_mod (pe_ix ix_list (pv 0) pe_int (fun _ _ => rfl)) (pv 1)))
      (pss_cons (ps_asg (pe_op op_fdivW (pe_ix ix_list (pv 0) pe_int (fun _ _ => rfl)) (pv 1)) (pg_sub (pv 0) pe_int set_list))
      (pss_one (ps_ret (pv 2))))) pss_nil)
      (pss_cons (ps_asg (pe_op op_add (pe_ix ix_list (pv 0) pe_int (fun _ _ => rfl)) pe_int) (pg_sub (pv 0) pe_int set_list))
      (pss_cons (ps_set (i := 3) sc__law_take.nd rfl (Or.inl rfl) (pe_op op_mod (pe_op Hw.op_powW (pe_op op_add (pe_ix ix_list (pv 0) pe_int (fun _ _ => rfl)) (pe_op op_mul pe_int (pe_ix ix_list (pv 0) pe_int (fun _ _ => rfl)))) pe_int) (pe_op op_add (pe_op Hw.op_powW pe_int pe_int) pe_int)))
      (pss_cons (ps_set (i := 3) sc__law_take.nd rfl (Or.inl rfl) (pe_op op_mod (pe_op Hw.op_powW (pe_op op_add (pv 3) (pe_op op_mul pe_int (pe_ix ix_list (pv 0) pe_int (fun _ _ => rfl)))) pe_int) (pe_op op_add (pe_op Hw.op_powW pe_int pe_int) pe_int)))
      (pss_one (ps_ret (pe_op op_mod (pe_op op_fdivW (pv 3) pe_int) (pv 1)))))))), ?_⟩
  obtain ⟨n, bd, k, rfl, hb0, hb1, ⟨a, b, c, hn, hbb, hc⟩, q⟩ := h
  have hix := fun H' (e : Ex H H') => ix3 (K := K) hn e
  refine q_when (b := decide ((0 : Int) < (a : Int))) (et_test (ev_op (ev_op (ev_var rfl) ev_c (hix _ (Ex.refl _)).1) ev_c rv_I0)) (fun hb H1 e1 => ?_) (fun hb H1 e1 => ?_)
  · refine q_asg (v := .int ((a % bd : Nat) : Int)) (ev_op (ev_op (ev_var rfl) ev_c (hix _ e1).1) (ev_var rfl) (rv_modN hb0)) fun H2 e2 => ?_
    refine q_setL (j := 0) (v := .int ((a / bd : Nat) : Int)) (e2 _ _ (e1 _ _ hn)) (ev_op (ev_op (ev_var rfl) ev_c (hix _ (e1.trans e2)).1) (ev_var rfl) (rv_fdivN hb0 hb1 (by decide) (by decide))) (ev_var rfl) ev_c (show 0 < 3 by decide) fun H3 e3 => ?_
    refine s_ret (ev_var rfl) fun H4 e4 => ?_
    refine q _ H4 (Nat.mod_lt _ hb0) ?_ ⟨a / bd, b, c, e4 _ _ upd_same, hbb, by omega⟩
    exact ((ExB.of ((e1.trans e2).trans e3)).trans (ExB.upd n H3 _)).trans (ExB.of e4)
  · refine q_setL (j := 2) (v := .int ((c + 1 : Nat) : Int)) (e1 _ _ hn) (ev_op (ev_op (ev_var rfl) ev_c (hix _ e1).2.2) (ev_n 1) rv_addN) (ev_var rfl) ev_c (show 2 < 3 by decide) fun H2 e2 => ?_
    have h3 : upd H2 n (HO.lst ([V.int (a : Int), .int (b : Int), .int (c : Int)].set 2 (.int ((c + 1 : Nat) : Int)))) n = some (.lst [.int (a : Int), .int (b : Int), .int ((c + 1 : Nat) : Int)]) := upd_same
    have hi2 := fun H' (e : Ex (upd H2 n (HO.lst ([V.int (a : Int), .int (b : Int), .int (c : Int)].set 2 (.int ((c + 1 : Nat) : Int))))) H') => ix3 (K := K) h3 e
    have cl : c + 1 ≤ 10 ^ 9 := by omega
    refine q_asg (v := .int ((tmix1 b (c + 1) : Nat) : Int)) (ev_op (ev_op (ev_op (ev_op (ev_var rfl) ev_c (hi2 _ (Ex.refl _)).2.1) (ev_op (ev_n 32452867) (ev_op (ev_var rfl) ev_c (hi2 _ (Ex.refl _)).2.2) (rv_mulN (.inl (by decide)))) rv_addN) (ev_n 3) (rv_powN (b := 139) (tmixA hbb cl) (by decide) (by decide)))
      (ev_op (ev_op (ev_n 10) (ev_n 39) (rv_powN (b := 4) (by decide) (by decide) (by decide))) (ev_n 3) rv_addN) (rv_modN (by omega))) fun H3 e3 => ?_
    refine q_asg (v := .int ((tmix2 b (c + 1) : Nat) : Int)) (ev_op (ev_op (ev_op (ev_var rfl) (ev_op (ev_n 49979693) (ev_op (ev_var rfl) ev_c (hi2 _ e3).2.2) (rv_mulN (.inl (by decide)))) rv_addN) (ev_n 3) (rv_powN (b := 139) (tmixB b cl) (by decide) (by decide)))
      (ev_op (ev_op (ev_n 10) (ev_n 38) (rv_powN (b := 4) (by decide) (by decide) (by decide))) (ev_n 133) rv_addN) (rv_modN (by omega))) fun H4 e4 => ?_
    refine s_ret (v := .int ((tmix2 b (c + 1) / 87803 % bd : Nat) : Int)) (ev_op (ev_op (ev_var rfl) (ev_n 87803) (rv_fdivN (b := 20) (by decide) (by decide) (by decide) (by decide))) (ev_var rfl) (rv_modN hb0)) fun H5 e5 => ?_
    refine q _ H5 (Nat.mod_lt _ hb0) ?_ ⟨a, b, c + 1, ((e3.trans e4).trans e5) _ _ h3, hbb, by omega⟩
    exact ((ExB.of (e1.trans e2)).trans (ExB.upd n H2 _)).trans (ExB.of ((e3.trans e4).trans e5))
def sp__law_bag (K : PySem.W.Frag) : Sp := fun vs H Q _ => ∃ (a : Addr) (ns : List Int) (k : Nat), vs = [.ref a, .int (k : Int)] ∧ SqL K H a (il ns) ∧ ns.length ≤ 1000 ∧ k ≤ 1000 ∧
  ∀ (n : Addr) (H' : Hp), H n = none → Ex H H' → Nb n (10 ^ 8) H' → Q (.ref n) H'
theorem ok__law_bag (T : Env K mg) : Callee P w K mg base CX0 1 "_law_bag" ["script", "k"] [] (sp__law_bag K) := by
  refine callee_of T.g__law_bag T.d__law_bag sc__law_bag (fun _ _ _ _ _ _ us hl => match us, hl with | [_, _], _ => rfl) (fun vs H Q E h => by first | (obtain ⟨rfl, _⟩ := h; rfl) | (obtain ⟨_, rfl, _⟩ := h; rfl) | (obtain ⟨_, _, rfl, _⟩ := h; rfl) | (obtain ⟨_, _, _, rfl, _⟩ := h; rfl) | (obtain ⟨_, _, _, _, rfl, _⟩ := h; rfl) | (obtain ⟨_, _, _, _, _, rfl, _⟩ := h; rfl) | (obtain ⟨_, _, _, _, _, _, rfl, _⟩ := h; rfl) | (obtain ⟨_, _, _, _, _, _, _, rfl, _⟩ := h; rfl) | (obtain ⟨_, _, _, _, _, _, _, _, rfl, _⟩ := h; rfl)) ?_
  intro cdv f A outer s H vs Q E hr h
  refine ⟨_, (pss_cons (ps_set (i := 2) sc__law_bag.nd rfl (Or.inl rfl) (pe_ifExp (pt_cmpR op_lt (pv 1) (pe_callB call_len_seq (by rfl) T.n_len PySem.boot_len (pa_cons (pv 0) pa_nil)) (nomark _)) (pe_ix ix_list (pv 0) (pv 1) (fun _ _ => rfl)) pe_int))
      (pss_one (ps_ret (pe_lst (pa_cons (pe_callB (call_max2 (by rfl)) (by rfl) T.n_max (by decide +kernel) (pa_cons pe_int (pa_cons (pe_op op_sub (pe_callB call_abs (by rfl) T.n_abs (by decide +kernel) (pa_cons (pv 2) pa_nil)) (pe_op Hw.op_powW pe_int pe_int)) pa_nil))) (pa_cons (pe_op op_add (pe_op op_mod (pv 2) (pe_op op_add (pe_op Hw.op_powW pe_int pe_int) pe_int)) (pe_op op_mul pe_int (pv 1))) (pa_cons pe_int pa_nil))))))), ?_⟩
  obtain ⟨a, ns, k, rfl, hs, hl, hk, q⟩ := h
  refine q_asg (v := .int (ns.getD k 0)) (ev_if (b := decide ((k : Int) < (ns.length : Int))) (et_test (ev_op (ev_var rfl) (ev_cb (ea_cons (ev_var rfl) ea_nil) (rc_lenI hs)) rv_I0)) (fun hb => ?_) fun hb => ?_) fun H1 e1 => ?_
  · have := of_decide_eq_true hb
    exact ev_op (ev_var rfl) (ev_var rfl) (rv_ixL hs (il_at (by omega)))
  · have := of_decide_eq_false hb
    have e : ns.getD k 0 = 0 := by
      unfold List.getD
      rw [List.getElem?_eq_none (by omega)]
      rfl
    rw [e]
    exact ev_c
  · generalize ns.getD k 0 = z
    have h3 : z % ((10 ^ 35 + 7 : Nat) : Int) + 70793 * (k : Int) = (((z % ((10 ^ 35 + 7 : Nat) : Int)).toNat + 70793 * k : Nat) : Int) := by
      have all : ∀ M : Int, 0 < M → z % M + 70793 * (k : Int) = (((z % M).toNat + 70793 * k : Nat) : Int) := fun M hM => by
        have h0 := Int.emod_nonneg z (show M ≠ 0 by omega)
        rw [Int.natCast_add, Int.natCast_mul, Int.toNat_of_nonneg h0]
        rfl
      exact all _ (by decide)
    have h3l : (z % ((10 ^ 35 + 7 : Nat) : Int)).toNat + 70793 * k < 10 ^ 40 := by
      have := Int.emod_lt_of_pos z (b := ((10 ^ 35 + 7 : Nat) : Int)) (by decide)
      omega
    refine s_retL (xs := [.int ((z.natAbs - 10 ^ 18 : Nat) : Int), .int (((z % ((10 ^ 35 + 7 : Nat) : Int)).toNat + 70793 * k : Nat) : Int), .int ((0 : Nat) : Int)]) ?_ fun p H2 hp e2 h2 => q p H2 (fresh_back e1 hp) (e1.trans e2) ⟨_, _, _, h2, h3l, by decide⟩
    refine el_lst (ea_cons ?_ (ea_cons ?_ (ea_cons ev_c ea_nil))) (show 3 ≤ 100000 by decide)
    · refine ev_is (ev_cb (ea_cons ev_c (ea_cons (ev_op (ev_cb (ea_cons (ev_var rfl) ea_nil) rc_abs) (ev_op (ev_n 10) (ev_n 18) (rv_powN (b := 4) (by decide) (by decide) (by decide))) rv_I0) ea_nil)) rc_max2) ?_
      rw [absN]
      congr 1
      split <;> omega
    · rw [← h3]
      exact ev_op (ev_op (ev_var rfl) (ev_op (ev_op (ev_n 10) (ev_n 35) (rv_powN (b := 4) (by decide) (by decide) (by decide))) (ev_n 7) rv_addN) (rv_I (by decide))) (ev_op ev_c (ev_var rfl) (rv_I (.inl ⟨by decide, by decide⟩))) rv_I0
end

/-! ### what draws from the numbers: values told by a property, all but the numbers stays -/
def rm (n : Addr) (H : Hp) : Hp := fun x => if x = n then none else H x
theorem rm_self (n : Addr) (H : Hp) : rm n H n = none := if_pos rfl
theorem rm_ne {n x : Addr} {H : Hp} (h : x ≠ n) : rm n H x = H x := if_neg h
theorem rm_ex (n : Addr) (H : Hp) : Ex (rm n H) H := fun x o h => by
  by_cases e : x = n
  · subst e; rw [rm_self] at h; cases h
  · rw [rm_ne e] at h; exact h
/-- n holds the numbers, beside the world G; the heap is H -/
structure Wn (n : Addr) (k : Nat) (G H : Hp) : Prop where
  off : G n = none
  ex : Ex G H
  nb : Nb n k H
theorem Wn.of {n : Addr} {k : Nat} {H : Hp} (h : Nb n k H) : Wn n k (rm n H) H := ⟨rm_self n H, rm_ex n H, h⟩
theorem Wn.step {n : Addr} {k : Nat} {G H H' : Hp} (w : Wn n k G H) (e : Ex H H') : Wn n k G H' := ⟨w.off, w.ex.trans e, w.nb.ex e⟩
theorem Wn.le {n : Addr} {k j : Nat} {G H : Hp} (w : Wn n k G H) (h : j ≤ k) : Wn n j G H := ⟨w.off, w.ex, w.nb.le h⟩
theorem Wn.at_ne {n p : Addr} {k : Nat} {G H : Hp} {o : HO} (w : Wn n k G H) (h : G p = some o) : p ≠ n := by
  intro e
  rw [e, w.off] at h
  cases h
theorem Wn.fresh {n p : Addr} {k : Nat} {G H : Hp} (w : Wn n k G H) (h : H p = none) : p ≠ n := by
  obtain ⟨a, b, c, e, _⟩ := w.nb
  intro z
  rw [z, e] at h
  cases h
theorem Wn.exB {n : Addr} {k j : Nat} {G H H' : Hp} (w : Wn n k G H) (e : ExB n H H') (h : Nb n j H') : Wn n j G H' :=
  ⟨w.off, fun x o hx => e x o (w.at_ne hx) (w.ex x o hx), h⟩
theorem Wn.new {n p : Addr} {k : Nat} {G H H' : Hp} {o : HO} (w : Wn n k G H) (hp : H p = none) (e : Ex H H') (h : H' p = some o) : Wn n k (upd G p o) H' := by
  have ne := w.fresh hp
  refine ⟨by rw [upd_ne (Ne.symm ne)]; exact w.off, fun x u hx => ?_, w.nb.ex e⟩
  by_cases z : x = p
  · subst z
    rw [upd_same] at hx
    cases hx
    exact h
  · rw [upd_ne z] at hx
    exact e x u (w.ex x u hx)
theorem Wn.drop {n p : Addr} {k : Nat} {G H : Hp} {o : HO} (w : Wn n k (upd G p o) H) (hp : G p = none) : Wn n k G H := by
  have ne : p ≠ n := w.at_ne upd_same
  refine ⟨by have := w.off; rw [upd_ne (Ne.symm ne)] at this; exact this, fun x u hx => w.ex x u ?_, w.nb⟩
  rw [upd_ne (ne_of_none hx hp)]
  exact hx
theorem Wn.write {n p : Addr} {k : Nat} {G H : Hp} {o o' : HO} (w : Wn n k (upd G p o) H) : Wn n k (upd G p o') (upd H p o') := by
  have ne : p ≠ n := w.at_ne upd_same
  have off := w.off
  rw [upd_ne (Ne.symm ne)] at off
  refine ⟨by rw [upd_ne (Ne.symm ne)]; exact off, fun x u hx => ?_, ?_⟩
  · by_cases z : x = p
    · subst z
      rw [upd_same] at hx ⊢
      exact hx
    · rw [upd_ne z] at hx ⊢
      exact w.ex x u (by rw [upd_ne z]; exact hx)
  · obtain ⟨a, b, c, h1, h2⟩ := w.nb
    exact ⟨a, b, c, by rw [upd_ne (Ne.symm ne)]; exact h1, h2⟩
theorem Wn.sub {n : Addr} {k : Nat} {G G' H : Hp} (w : Wn n k G H) (e : Ex G' G) : Wn n k G' H := by
  refine ⟨?_, e.trans w.ex, w.nb⟩
  cases h : G' n with
  | none => rfl
  | some o =>
    have := e n o h
    rw [w.off] at this
    cases this
theorem ex_upd {G G' : Hp} {p : Addr} {o : HO} (e : Ex G G') : Ex (upd G p o) (upd G' p o) := fun x u h => by
  by_cases z : x = p
  · subst z
    rw [upd_same] at h ⊢
    exact h
  · rw [upd_ne z] at h ⊢
    exact e x u h
theorem il_set (js : List Int) (j : Nat) (z : Int) : (il js).set j (.int z) = il (js.set j z) := by
  unfold il
  rw [List.map_set]
def EvN (n : Addr) (k k' : Nat) (G : Hp) (te : TE) (σ : L2.St) (P : Int → Prop) : Prop := ∀ H, Wn n k G H → ∀ Q : VK, (∀ i H', P i → Wn n k' G H' → Q (.int i) H') → te σ H Q
def EvNA (n : Addr) (k k' : Nat) (G : Hp) (ta : TA) (σ : L2.St) (P : List Int → Prop) : Prop := ∀ H, Wn n k G H → ∀ Q : List V → Hp → Prop, (∀ js H', P js → Wn n k' G H' → Q (il js) H') → ta σ H Q
section
variable {n : Addr} {k k1 k2 : Nat} {G H : Hp} {σ : L2.St} {ta tb te : TE} {t : TT} {K : PySem.W.Frag} {Pa Pb Pz : Int → Prop}
theorem en_pure {i : Int} (h : Ev te σ G (.int i)) (hp : Pz i) : EvN n k k G te σ Pz := fun H w Q q => h H w.ex Q fun H1 e => q i H1 hp (w.step e)
theorem en_imp {P' : Int → Prop} (h : EvN n k k1 G te σ Pa) (hp : ∀ i, Pa i → P' i) : EvN n k k1 G te σ P' := fun H w Q q => h H w Q fun i H' p => q i H' (hp i p)
theorem en_I0 {f : Int → Int → Int} (ha : EvN n k k1 G ta σ Pa) (hb : EvN n k1 k2 G tb σ Pb) (h : ∀ i j, Pa i → Pb j → Pz (f i j)) : EvN n k k2 G (tOp (rI0 fun i j => .int (f i j)) ta tb) σ Pz :=
  fun H w Q q => ha H w _ fun i H1 pi w1 => hb H1 w1 _ fun j H2 pj w2 => ⟨i, j, rfl, rfl, q _ H2 (h i j pi pj) w2⟩
theorem en_I {C : Int → Int → Prop} {f : Int → Int → Int} (ha : EvN n k k1 G ta σ Pa) (hb : EvN n k1 k2 G tb σ Pb) (h : ∀ i j, Pa i → Pb j → C i j ∧ Pz (f i j)) : EvN n k k2 G (tOp (rI C fun i j => .int (f i j)) ta tb) σ Pz :=
  fun H w Q q => ha H w _ fun i H1 pi w1 => hb H1 w1 _ fun j H2 pj w2 => ⟨i, j, rfl, rfl, (h i j pi pj).1, q _ H2 (h i j pi pj).2 w2⟩
theorem en_if {b : Bool} (h : EvT t σ G b) (h1 : b = true → EvN n k k1 G ta σ Pz) (h2 : b = false → EvN n k k1 G tb σ Pz) : EvN n k k1 G (tIf t ta tb) σ Pz :=
  fun H w Q q => h H w.ex _ fun H1 e => by
    cases b with
    | true => exact h1 rfl H1 (w.step e) Q q
    | false => exact h2 rfl H1 (w.step e) Q q
theorem en_le {j : Nat} (h : EvN n k1 k2 G te σ Pz) (hj : k1 ≤ j) : EvN n j k2 G te σ Pz := fun H w Q q => h H (w.le hj) Q q
theorem en_weak {j : Nat} (h : EvN n k k2 G te σ Pz) (hj : j ≤ k2) : EvN n k j G te σ Pz := fun H w Q q => h H w Q fun i H' p w' => q i H' p (w'.le hj)
theorem en_pick {E : XK} {i m : Nat} (hv : σ[i]? = some (some (.ref n))) (hb : Ev tb σ G (.int (m : Int))) (h0 : 0 < m) (h1 : m < 2 ^ 200) :
    EvN n (k + 1) k G (tCall (sp__law_take K) [] E (tCons (tVar i) (tCons tb tNil))) σ fun z => ∃ r : Nat, z = (r : Int) ∧ r < m := by
  intro H w Q q
  refine ⟨_, hv, ?_⟩
  refine hb H w.ex _ fun H1 e => ?_
  have w1 := w.step e
  exact ⟨n, m, k, rfl, h0, h1, w1.nb, fun r H' hr eb nb => q _ H' ⟨r, rfl, hr⟩ (w1.exB eb nb)⟩
theorem en_max2 (ha : EvN n k k1 G ta σ Pa) (hb : EvN n k1 k2 G tb σ Pb) (h : ∀ i j, Pa i → Pb j → Pz (if j > i then j else i)) :
    EvN n k k2 G (tCB (fun xs H Q => ∃ i j, xs = [.int i, .int j] ∧ Q (.int (if j > i then j else i)) H) (tCons ta (tCons tb tNil))) σ Pz :=
  fun H w Q q => ha H w _ fun i H1 pi w1 => hb H1 w1 _ fun j H2 pj w2 => ⟨i, j, rfl, q _ H2 (h i j pi pj) w2⟩
theorem en_min2 (ha : EvN n k k1 G ta σ Pa) (hb : EvN n k1 k2 G tb σ Pb) (h : ∀ i j, Pa i → Pb j → Pz (if j < i then j else i)) :
    EvN n k k2 G (tCB (fun xs H Q => ∃ i j, xs = [.int i, .int j] ∧ Q (.int (if j < i then j else i)) H) (tCons ta (tCons tb tNil))) σ Pz :=
  fun H w Q q => ha H w _ fun i H1 pi w1 => hb H1 w1 _ fun j H2 pj w2 => ⟨i, j, rfl, q _ H2 (h i j pi pj) w2⟩
/-- an item of a list of the world at a drawn place -/
theorem en_ix {p : Addr} {js : List Int} (ha : Ev ta σ G (.ref p)) (hs : SqL K G p (il js)) (hb : EvN n k k1 G tb σ fun i => 0 ≤ i ∧ i < (js.length : Int)) (h : ∀ j ∈ js, Pz j) : EvN n k k1 G (tOp (rIxL K) ta tb) σ Pz := by
  intro H w Q q
  refine ha H w.ex _ fun H1 e1 => ?_
  refine hb H1 (w.step e1) _ fun i H2 hi w2 => ?_
  have e : i = ((i.toNat : Nat) : Int) := by omega
  have hl : i.toNat < js.length := by omega
  refine ⟨p, il js, i, .int (js.getD i.toNat 0), rfl, rfl, ex_l w2.ex hs, by rw [e]; exact il_at hl, q _ H2 (h _ ?_) w2⟩
  simp [List.getD, hl]
theorem ena_nil {P : List Int → Prop} (h : P []) : EvNA n k k G tNil σ P := fun H w Q q => q [] H h w
theorem ena_cons {tr : TA} {Pr P : List Int → Prop} (ha : EvN n k k1 G ta σ Pa) (hr : EvNA n k1 k2 G tr σ Pr) (h : ∀ i js, Pa i → Pr js → P (i :: js)) : EvNA n k k2 G (tCons ta tr) σ P :=
  fun H w Q q => ha H w _ fun i H1 pi w1 => hr H1 w1 _ fun js H2 pj w2 => q (i :: js) H2 (h i js pi pj) w2
/-! statements -/
variable {D : Ends} {tu tz : TS} {i : Nat} {P : List Int → Prop}
theorem n_asg (h : EvN n k k1 G te σ Pz) (w : Wn n k G H) (q : ∀ z H1, Pz z → Wn n k1 G H1 → tz D (σ.set i (some (.int z))) H1) : tSeq (tAsg te (gName i)) tz D σ H := h H w _ q
theorem n_asgL {ta : TA} (h : EvNA n k k1 G ta σ P) (hl : ∀ js, P js → js.length ≤ 100000) (w : Wn n k G H)
    (q : ∀ js p H1, P js → G p = none → p ≠ n → Wn n k1 (upd G p (.lst (il js))) H1 → tz D (σ.set i (some (.ref p))) H1) : tSeq (tAsg (tLst ta) (gName i)) tz D σ H :=
  h H w _ fun js H1 pj w1 => ⟨by rw [il_len]; exact sz_of (hl js pj), fun p hp => q js p _ pj (fresh_back w1.ex hp) (w1.fresh hp) (w1.new hp (Ex.new hp) upd_same)⟩
/-- xs[j] = e, xs a list of one's own at p -/
theorem n_setL {p : Addr} {xs : List V} {j : Nat} {to ti : TE} (h : EvN n k k1 (upd G p (.lst xs)) te σ Pz) (ho : Ev to σ (upd G p (.lst xs)) (.ref p)) (hi : Ev ti σ (upd G p (.lst xs)) (.int (j : Int))) (hj : j < xs.length) (w : Wn n k (upd G p (.lst xs)) H)
    (q : ∀ z H1, Pz z → Wn n k1 (upd G p (.lst (xs.set j (.int z)))) H1 → tz D σ H1) : tSeq (tAsg te (gSub to ti rSetL)) tz D σ H :=
  h H w _ fun z H1 pz w1 => ho H1 w1.ex _ fun H2 e2 => hi H2 (w1.ex.trans e2) _ fun H3 e3 =>
    ⟨p, xs, (j : Int), j, rfl, rfl, ((w1.step e2).step e3).ex p _ upd_same, ixN_nat hj, q z _ pz ((w1.step e2).step e3).write⟩
/-- xs + [..], [..] + xs: xs a list of the world, the display drawn -/
theorem n_asgCatR {ta : TE} {tr : TA} {p : Addr} {xs : List V} (ho : Ev ta σ G (.ref p)) (hp : G p = some (.lst xs)) (h : EvNA n k k1 G tr σ P) (hl : ∀ js, P js → xs.length + js.length ≤ 100000) (w : Wn n k G H)
    (q : ∀ js p2 H1, P js → G p2 = none → p2 ≠ n → Wn n k1 (upd G p2 (.lst (xs ++ il js))) H1 → tz D (σ.set i (some (.ref p2))) H1) : tSeq (tAsg (tOp rCat ta (tLst tr)) (gName i)) tz D σ H :=
  ho H w.ex _ fun H1 e1 => h H1 (w.step e1) _ fun js H2 pj w2 => ⟨by rw [il_len]; have := hl js pj; exact sz_of (by omega), fun p1 hp1 => by
    have e2 : Ex H2 (upd H2 p1 (.lst (il js))) := Ex.new hp1
    have w3 := w2.step e2
    exact ⟨p, p1, xs, il js, rfl, rfl, w3.ex _ _ hp, upd_same, by rw [il_len]; have := hl js pj; exact sz_of (by omega), fun p2 hp2 => q js p2 _ pj (fresh_back w3.ex hp2) (w3.fresh hp2) (w3.new hp2 (Ex.new hp2) upd_same)⟩⟩
theorem n_asgCatL {tb : TE} {tr : TA} {p : Addr} {xs : List V} (ho : Ev tb σ G (.ref p)) (hp : G p = some (.lst xs)) (h : EvNA n k k1 G tr σ P) (hl : ∀ js, P js → js.length + xs.length ≤ 100000) (w : Wn n k G H)
    (q : ∀ js p2 H1, P js → G p2 = none → p2 ≠ n → Wn n k1 (upd G p2 (.lst (il js ++ xs))) H1 → D.nx (σ.set i (some (.ref p2))) H1) : tAsg (tOp rCat (tLst tr) tb) (gName i) D σ H :=
  h H w _ fun js H2 pj w2 => ⟨by rw [il_len]; have := hl js pj; exact sz_of (by omega), fun p1 hp1 => by
    have e2 : Ex H2 (upd H2 p1 (.lst (il js))) := Ex.new hp1
    have w3 := w2.step e2
    refine ho _ w3.ex _ fun H4 e4 => ?_
    have w4 := w3.step e4
    exact ⟨p1, p, il js, xs, rfl, rfl, e4 _ _ upd_same, w4.ex _ _ hp, by rw [il_len]; have := hl js pj; exact sz_of (by omega), fun p2 hp2 => q js p2 _ pj (fresh_back w4.ex hp2) (w4.fresh hp2) (w4.new hp2 (Ex.new hp2) upd_same)⟩⟩
/-- for x in range(a drawn number) -/
theorem n_forR1 {ta : TA} {j B : Nat} (h : EvNA n k k1 G ta σ fun js => ∃ r : Nat, js = [(r : Int)] ∧ r ≤ B) (hB : B ≤ 100000) (w : Wn n k G H) (Pv : Nat → L2.St → Hp → Prop) (h0 : ∀ H1, Wn n k1 G H1 → Pv 0 σ H1)
    (hs : ∀ (i : Nat) σ' H', i < B → Pv i σ' H' → tu { D with nx := Pv (i + 1), ct := Pv (i + 1), bk := tz D } (σ'.set j (some (.int (i : Int)))) H') (hd : ∀ i σ' H', i ≤ B → Pv i σ' H' → tz D σ' H') : tSeq (tFor (iRng1 ta) (gName j) tu) tz D σ H :=
  h H w _ fun js H1 pj w1 => by
    obtain ⟨r, rfl, hr⟩ := pj
    refine ⟨(r : Int), rfl, by omega, by omega, for_range (lo := 0) (n := ((r : Int)).toNat) Pv (h0 H1 w1) (fun i σ' H' hi p => ?_) fun σ' H' p => hd _ σ' H' (by omega) p⟩
    have e0 : (0 : Int) + (i : Int) = (i : Int) := Int.zero_add _
    show tu { D with nx := Pv (i + 1), ct := Pv (i + 1), bk := tz D } (σ'.set j (some (.int ((0 : Int) + (i : Int))))) H'
    rw [e0]
    exact hs i σ' H' (by omega) p
end
section
variable {P : Program} {w : World} {K : PySem.W.Frag} {mg : Str → Option Value} {base : Heap}
theorem nl_as_il (ws : List Nat) : nl ws = il (ws.map fun (n : Nat) => (n : Int)) := nl_il ws
theorem nl_sum_il (ws : List Nat) (a b : Nat) : cutV (nl ws) (some (a : Int)) (some (b : Int)) = il (((ws.take b).drop a).map fun (n : Nat) => (n : Int)) := by
  rw [cutV_nn, nl_take, nl_drop, nl_il]
def sp__law_plan (K : PySem.W.Frag) : Sp := fun vs H Q _ => ∃ (n : Addr) (most wide k : Nat), vs = [.ref n, .int (most : Int), .int (wide : Int)] ∧ most ≤ 1000 ∧ 1 ≤ wide ∧ wide ≤ 10000 ∧ Nb n (k + 1 + 6 * most) H ∧
  ∀ (p : Addr) (ws : List Nat) (H' : Hp), H p = none → p ≠ n → ExB n H H' → H' p = some (.lst (nl ws)) → (∀ x ∈ ws, 1 ≤ x ∧ x ≤ wide) → ws.length ≤ most → Nb n k H' → Q (.ref p) H'
end
/-! drawn lists -/
section
variable {n : Addr} {k k1 k2 : Nat} {G H : Hp} {σ : L2.St} {ta tb te tl : TE} {t : TT} {K : PySem.W.Frag} {Pa Pb Pz : Int → Prop} {P P2 : List Int → Prop} {D : Ends} {tu tz : TS} {i : Nat}
def EvNL (n : Addr) (k k' : Nat) (G : Hp) (te : TE) (σ : L2.St) (P : List Int → Prop) : Prop :=
  ∀ H, Wn n k G H → ∀ Q : VK, (∀ js p H', P js → G p = none → p ≠ n → Wn n k' (upd G p (.lst (il js))) H' → Q (.ref p) H') → te σ H Q
theorem enl_lst {ta : TA} (h : EvNA n k k1 G ta σ P) (hl : ∀ js, P js → js.length ≤ 100000) : EvNL n k k1 G (tLst ta) σ P :=
  fun H w Q q => h H w _ fun js H1 pj w1 => ⟨by rw [il_len]; exact sz_of (hl js pj), fun p hp => q js p _ pj (fresh_back w1.ex hp) (w1.fresh hp) (w1.new hp (Ex.new hp) upd_same)⟩
theorem n_asgNL (h : EvNL n k k1 G te σ P) (w : Wn n k G H) (q : ∀ js p H1, P js → G p = none → p ≠ n → Wn n k1 (upd G p (.lst (il js))) H1 → tz D (σ.set i (some (.ref p))) H1) : tSeq (tAsg te (gName i)) tz D σ H := h H w _ q
/-- [..][a drawn place] -/
theorem en_ixD (ha : EvNL n k k1 G ta σ P) (hb : ∀ js p, P js → G p = none → EvN n k1 k2 (upd G p (.lst (il js))) tb σ fun i => 0 ≤ i ∧ i < (js.length : Int)) (h : ∀ js, P js → ∀ j ∈ js, Pz j) : EvN n k k2 G (tOp (rIxL K) ta tb) σ Pz := by
  intro H w Q q
  refine ha H w _ fun js p H1 pj hp ne w1 => ?_
  refine hb js p pj hp H1 w1 _ fun i H2 hi w2 => ?_
  have e : i = ((i.toNat : Nat) : Int) := by omega
  have hl : i.toNat < js.length := by omega
  refine ⟨p, il js, i, .int (js.getD i.toNat 0), rfl, rfl, sq_of (w2.ex _ _ upd_same), by rw [e]; exact il_at hl, q _ H2 (h _ pj _ ?_) (w2.drop hp)⟩
  simp [List.getD, hl]
/-- [..] + xs, the display drawn, xs a new list -/
theorem enl_cat {xs : List Int} (ha : EvNL n k k1 G ta σ P) (hb : EvL tb σ G (il xs)) (hl : ∀ js, P js → js.length + xs.length ≤ 100000) (h : ∀ js, P js → P2 (js ++ xs)) : EvNL n k k1 G (tOp rCat ta tb) σ P2 := by
  intro H w Q q
  refine ha H w _ fun js p H1 pj hp ne w1 => ?_
  have w1' := w1.drop hp
  refine hb H1 w1'.ex _ fun p2 H2 hp2 e2 h2 => ?_
  refine ⟨p, p2, il js, il xs, rfl, rfl, (w1.step e2).ex _ _ upd_same, h2, by rw [il_len, il_len]; exact sz_of (hl js pj), fun p3 hp3 => ?_⟩
  have w2 := (w1.step e2).drop hp
  have e : il js ++ il xs = il (js ++ xs) := by simp [il]
  rw [e]
  exact q (js ++ xs) p3 _ (h js pj) (fresh_back w2.ex hp3) (w2.fresh hp3) (w2.new hp3 (Ex.new hp3) upd_same)
/-- [a drawn number for x in range(m)] -/
theorem enl_lcR1 {ta : TA} {j m : Nat} {vs : List Nat} (h : EvA ta σ G [.int (m : Int)]) (hm : m ≤ 1000) (hw : ∀ x, wipe ((wipe σ vs).set j (some x)) vs = wipe σ vs)
    (he : ∀ (i kk : Nat) (G' : Hp), i < m → Ex G G' → EvN n (kk + 1) kk G' te ((wipe σ vs).set j (some (.int (i : Int)))) Pz) :
    EvNL n (k + m) k G (tLc (iRng1 ta) (gName j) tYes te vs) σ fun js => js.length = m ∧ ∀ x ∈ js, Pz x := by
  intro H w Q q
  refine h H w.ex _ fun H1 e1 => ⟨(m : Int), rfl, by omega, by omega, fun Dl hD => ?_⟩
  have w1 := w.step e1
  have hG := fresh_back w1.ex hD
  refine lc_range (lo := 0) (n := ((m : Int)).toNat) (fun i H' => ∃ js : List Int, js.length = i ∧ (∀ x ∈ js, Pz x) ∧ Wn n (k + (m - i)) (upd G Dl (.lst (il js))) H') ⟨[], rfl, fun x hx => (by cases hx), (w1.new hD (Ex.new hD) (upd_same (o := .lst (il [])))).le (by omega)⟩ ?_ ?_
  · rintro i H' hi ⟨js, hj, hp, w2⟩
    have e0 : (0 : Int) + (i : Int) = (i : Int) := Int.zero_add _
    show wipe ((wipe σ vs).set j (some (.int ((0 : Int) + (i : Int))))) vs = wipe σ vs ∧ tYes ((wipe σ vs).set j (some (.int ((0 : Int) + (i : Int))))) H' fun b H3 => if b = true then te ((wipe σ vs).set j (some (.int ((0 : Int) + (i : Int))))) H3 fun y H4 => ∃ acc, H4 Dl = some (.lst acc) ∧ acc.length < sizeLine ∧ ∃ js : List Int, js.length = i + 1 ∧ (∀ x ∈ js, Pz x) ∧ Wn n (k + (m - (i + 1))) (upd G Dl (.lst (il js))) (upd H4 Dl (.lst (acc ++ [y]))) else ∃ js : List Int, js.length = i + 1 ∧ (∀ x ∈ js, Pz x) ∧ Wn n (k + (m - (i + 1))) (upd G Dl (.lst (il js))) H3
    rw [e0]
    refine ⟨hw _, ?_⟩
    show te _ H' _
    refine he i (k + (m - (i + 1))) _ (by omega) (Ex.new hG) H' (w2.le (by omega)) _ fun z H4 pz w4 => ?_
    refine ⟨il js, w4.ex _ _ upd_same, by rw [il_len]; exact sz_lt (by omega), js ++ [z], by simp [hj], fun x hx => ?_, ?_⟩
    · rcases List.mem_append.mp hx with q | q
      · exact hp x q
      · rw [List.mem_singleton.mp q]; exact pz
    · have e : il js ++ [V.int z] = il (js ++ [z]) := by simp [il]
      rw [e]
      exact w4.write
  · rintro H' ⟨js, hj, hp, w2⟩
    exact q js Dl H' ⟨by omega, hp⟩ hG (w2.at_ne upd_same) (w2.le (by omega))
/-- for x in a drawn list -/
theorem n_forNL {j : Nat} (h : EvNL n k k1 G tl σ P) (w : Wn n k G H) (Pv : Addr → List Int → Nat → L2.St → Hp → Prop) (h0 : ∀ js p H1, P js → G p = none → p ≠ n → Wn n k1 (upd G p (.lst (il js))) H1 → Pv p js 0 σ H1)
    (hl : ∀ js p i σ' H', Pv p js i σ' H' → SqL K H' p (il js)) (hs : ∀ js p i z σ' H', P js → js[i]? = some z → Pv p js i σ' H' → tu { D with nx := Pv p js (i + 1), ct := Pv p js (i + 1), bk := tz D } (σ'.set j (some (.int z))) H')
    (hd : ∀ js p σ' H', P js → Pv p js js.length σ' H' → tz D σ' H') : tSeq (tFor (iList K tl) (gName j) tu) tz D σ H :=
  h H w _ fun js p H1 pj hp ne w1 => ⟨p, rfl, ⟨il js, sq_of (w1.ex _ _ upd_same)⟩, for_list (Pv p js) (h0 js p H1 pj hp ne w1) (fun i σ' H' _ pv => hl js p i σ' H' pv) (fun i x σ' H' hi pv => by
    obtain ⟨z, hz, rfl⟩ := il_get' hi
    exact hs js p i z σ' H' pj hz pv) (fun σ' H' pv => hd js p σ' H' pj (by rw [il_len] at pv; exact pv))⟩
/-- plan = _law_plan(numbers, most, wide) -/
theorem n_plan {E : XK} {x most wide : Nat} {tb tc : TE} (hv : σ[x]? = some (some (.ref n))) (hb : Ev tb σ G (.int (most : Int))) (hc : Ev tc σ G (.int (wide : Int))) (hm : most ≤ 1000) (hw1 : 1 ≤ wide) (hw2 : wide ≤ 10000) (w : Wn n (k + 1 + 6 * most) G H)
    (q : ∀ p ws H1, G p = none → p ≠ n → (∀ x ∈ ws, 1 ≤ x ∧ x ≤ wide) → ws.length ≤ most → Wn n k (upd G p (.lst (nl ws))) H1 → tz D (σ.set i (some (.ref p))) H1) :
    tSeq (tAsg (tCall (sp__law_plan K) [] E (tCons (tVar x) (tCons tb (tCons tc tNil)))) (gName i)) tz D σ H := by
  refine ⟨_, hv, ?_⟩
  refine hb H w.ex _ fun H1 e1 => hc H1 (w.ex.trans e1) _ fun H2 e2 => ?_
  have w2 := (w.step e1).step e2
  refine ⟨n, most, wide, k, rfl, hm, hw1, hw2, w2.nb, fun p ws H3 hp ne eb h3 hws hl nb => ?_⟩
  have w3 := w2.exB eb nb
  have gp := fresh_back w2.ex hp
  refine q p ws H3 gp ne hws hl ⟨by rw [upd_ne (Ne.symm ne)]; exact w3.off, fun y o hy => ?_, nb⟩
  by_cases z : y = p
  · subst z
    rw [upd_same] at hy
    cases hy
    exact h3
  · rw [upd_ne z] at hy
    exact w3.ex y o hy
end
section
variable {n : Addr} {k k1 k2 : Nat} {G H : Hp} {σ : L2.St} {ta tb te tl : TE} {t : TT} {K : PySem.W.Frag} {Pa Pb Pz : Int → Prop} {P P1 P2 : List Int → Prop} {D : Ends} {tu tz : TS} {i : Nat}
/-- the call of _law_plan as an expression -/
theorem enl_plan {E : XK} {x most wide : Nat} {tb tc : TE} (hv : σ[x]? = some (some (.ref n))) (hb : Ev tb σ G (.int (most : Int))) (hc : Ev tc σ G (.int (wide : Int))) (hm : most ≤ 1000) (hw1 : 1 ≤ wide) (hw2 : wide ≤ 10000) :
    EvNL n (k + 1 + 6 * most) k G (tCall (sp__law_plan K) [] E (tCons (tVar x) (tCons tb (tCons tc tNil)))) σ fun js => ∃ ws : List Nat, js = ws.map (fun (n : Nat) => (n : Int)) ∧ (∀ x ∈ ws, 1 ≤ x ∧ x ≤ wide) ∧ ws.length ≤ most := by
  intro H w Q q
  refine ⟨_, hv, ?_⟩
  refine hb H w.ex _ fun H1 e1 => hc H1 (w.ex.trans e1) _ fun H2 e2 => ?_
  have w2 := (w.step e1).step e2
  refine ⟨n, most, wide, k, rfl, hm, hw1, hw2, w2.nb, fun p ws H3 hp ne eb h3 hws hl nb => ?_⟩
  have w3 := w2.exB eb nb
  have gp := fresh_back w2.ex hp
  rw [nl_il] at h3
  refine q _ p H3 ⟨ws, rfl, hws, hl⟩ gp ne ⟨by rw [upd_ne (Ne.symm ne)]; exact w3.off, fun y o hy => ?_, nb⟩
  by_cases z : y = p
  · subst z
    rw [upd_same] at hy
    cases hy
    exact h3
  · rw [upd_ne z] at hy
    exact w3.ex y o hy
/-- two drawn lists joined -/
theorem enl_cat2 (ha : EvNL n k k1 G ta σ P) (hb : ∀ js p, P js → G p = none → EvNL n k1 k2 (upd G p (.lst (il js))) tb σ P1) (hl : ∀ js xs, P js → P1 xs → js.length + xs.length ≤ 100000) (h : ∀ js xs, P js → P1 xs → P2 (js ++ xs)) : EvNL n k k2 G (tOp rCat ta tb) σ P2 := by
  intro H w Q q
  refine ha H w _ fun js p H1 pj hp ne w1 => ?_
  refine hb js p pj hp H1 w1 _ fun xs p2 H2 px hp2 ne2 w2 => ?_
  have nn : p ≠ p2 := ne_of_none (show (upd G p (.lst (il js))) p = some (.lst (il js)) from upd_same) hp2
  refine ⟨p, p2, il js, il xs, rfl, rfl, w2.ex _ _ (by rw [upd_ne nn]; exact upd_same), w2.ex _ _ upd_same, by rw [il_len, il_len]; exact sz_of (hl js xs pj px), fun p3 hp3 => ?_⟩
  have w3 := w2.sub ((Ex.new hp).trans (Ex.new hp2))
  have e : il js ++ il xs = il (js ++ xs) := by simp [il]
  rw [e]
  exact q (js ++ xs) p3 _ (h js xs pj px) (fresh_back w3.ex hp3) (w3.fresh hp3) (w3.new hp3 (Ex.new hp3) upd_same)
/-- for x in (a drawn tuple) -/
theorem n_forNT {j : Nat} {ta : TA} (h : EvNA n k k1 G ta σ P) (hlen : ∀ js, P js → js.length ≤ 100000) (w : Wn n k G H) (Pv : Addr → List Int → Nat → L2.St → Hp → Prop) (h0 : ∀ js p H1, P js → G p = none → p ≠ n → Wn n k1 (upd G p (.tup (il js))) H1 → Pv p js 0 σ H1)
    (hl : ∀ js p i σ' H', Pv p js i σ' H' → H' p = some (.tup (il js))) (hs : ∀ js p i z σ' H', P js → js[i]? = some z → Pv p js i σ' H' → tu { D with nx := Pv p js (i + 1), ct := Pv p js (i + 1), bk := D.nx } (σ'.set j (some (.int z))) H')
    (hd : ∀ js p σ' H', P js → Pv p js js.length σ' H' → D.nx σ' H') : tFor (iTup K (tTup ta)) (gName j) tu D σ H :=
  h H w _ fun js H1 pj w1 => ⟨by rw [il_len]; exact sz_of (hlen js pj), fun p hp => by
    have w2 := w1.new hp (Ex.new hp) (upd_same (o := .tup (il js)))
    exact ⟨p, rfl, ⟨il js, st_of (w2.ex _ _ upd_same)⟩, for_tup (Pv p js) (h0 js p _ pj (fresh_back w1.ex hp) (w1.fresh hp) w2) (fun i σ' H' _ pv => st_of (hl js p i σ' H' pv)) (fun i x σ' H' hi pv => by
      obtain ⟨z, hz, rfl⟩ := il_get' hi
      exact hs js p i z σ' H' pj hz pv) (fun σ' H' pv => hd js p σ' H' pj (by rw [il_len] at pv; exact pv))⟩⟩
end

/-! ### what repr shows is short -/
structure Sh (n m : Nat) (d : PyData) : Prop where
  s : d.showable = true
  l : d.leavesShort 150 = true
  p : d.depth ≤ n
  q : d.weight ≤ m
theorem Sh.showy {n m : Nat} {d : PyData} (h : Sh n m d) (hn : n ≤ 60) (hm : m ≤ 100000) : Showy d := by
  refine ⟨h.s, Nat.le_trans h.p hn, ?_⟩
  have h1 := PyData.shown_le 150 (by decide) d h.l
  have h2 : (150 + 2) * d.weight ≤ (150 + 2) * 100000 := Nat.mul_le_mul_left _ (Nat.le_trans h.q hm)
  rw [sizeLine_eq]
  omega
theorem Sh.none : Sh 0 0 .none := ⟨by simp [PyData.showable], by simp [PyData.leavesShort], by simp [PyData.depth], by simp [PyData.weight]⟩
theorem Sh.bool (b : Bool) : Sh 0 0 (.bool b) := ⟨by simp [PyData.showable], by simp [PyData.leavesShort], by simp [PyData.depth], by simp [PyData.weight]⟩
theorem Sh.int {i : Int} (h : i.natAbs < 2 ^ 140) : Sh 0 140 (.int i) := by
  have hl : i.natAbs.log2 < 140 := PySem.Flt.log2_lt_of (by decide) h
  refine ⟨by simp only [PyData.showable, decide_eq_true_eq]; omega, ?_, by simp [PyData.depth], ?_⟩
  · have := int_text_length_le (a := i) (k := 140) (by decide) hl
    simp only [PyData.leavesShort, PyData.shown, decide_eq_true_eq]
    have e := PySem.ofString_length (toString i)
    exact decide_eq_true (show (Str.ofString (toString i)).length ≤ 150 by omega)
  · simp only [PyData.weight]
    split <;> omega
theorem sh_all {n m : Nat} : ∀ {ds : List PyData}, (∀ d ∈ ds, Sh n m d) → PyData.showableAll ds = true ∧ PyData.leavesShortAll 150 ds = true ∧ PyData.depthAll ds ≤ n ∧ PyData.weightAll ds ≤ ds.length * (m + 1)
  | [], _ => ⟨by simp [PyData.showableAll], by simp [PyData.leavesShortAll], by simp [PyData.depthAll], by simp [PyData.weightAll]⟩
  | d :: ds, h => by
    have h1 := h d List.mem_cons_self
    obtain ⟨a, b, c, e⟩ := sh_all (ds := ds) fun x hx => h x (List.mem_cons_of_mem _ hx)
    have p1 := h1.p
    have q1 := h1.q
    refine ⟨by simp [PyData.showableAll, h1.s, a], by simp [PyData.leavesShortAll, h1.l, b], ?_, ?_⟩
    · simp only [PyData.depthAll]
      exact Nat.max_le.mpr ⟨p1, c⟩
    · simp only [PyData.weightAll, List.length_cons, Nat.succ_mul]
      omega
theorem Sh.list {n m : Nat} {ds : List PyData} (h : ∀ d ∈ ds, Sh n m d) : Sh (n + 1) (ds.length * (m + 1)) (.list ds) := by
  obtain ⟨a, b, c, e⟩ := sh_all h
  exact ⟨by simp only [PyData.showable]; exact a, by simp only [PyData.leavesShort]; exact b, by simp only [PyData.depth]; omega, by simp only [PyData.weight]; exact e⟩
theorem Sh.tuple {n m : Nat} {ds : List PyData} (h : ∀ d ∈ ds, Sh n m d) : Sh (n + 1) (ds.length * (m + 1)) (.tuple ds) := by
  obtain ⟨a, b, c, e⟩ := sh_all h
  exact ⟨by simp only [PyData.showable]; exact a, by simp only [PyData.leavesShort]; exact b, by simp only [PyData.depth]; omega, by simp only [PyData.weight]; exact e⟩
theorem Sh.mono {n m n' m' : Nat} {d : PyData} (h : Sh n m d) (hn : n ≤ n') (hm : m ≤ m') : Sh n' m' d := ⟨h.s, h.l, Nat.le_trans h.p hn, Nat.le_trans h.q hm⟩
theorem sh_nat {x : Nat} (h : x ≤ 10 ^ 41) : Sh 0 140 (.int (x : Int)) := Sh.int (by
  rw [Int.natAbs_natCast]
  exact Nat.lt_of_le_of_lt h (by decide))
theorem sh_dN {ws : List Nat} (h : ∀ x ∈ ws, x ≤ 10 ^ 41) (hl : ws.length ≤ 700) : Showy (dN ws) := by
  refine (Sh.list (n := 0) (m := 140) (ds := ws.map fun (n : Nat) => PyData.int (n : Int)) fun d hd => ?_).showy (by decide) ?_
  · obtain ⟨x, hx, rfl⟩ := List.mem_map.mp hd
    exact sh_nat (h x hx)
  · rw [List.length_map]
    omega

/-! ### pieces common to several laws -/
section
variable {K : PySem.W.Frag}
def dO : Option Nat → PyData
  | none => .none
  | some n => .int (n : Int)
theorem dp_vO {H : Hp} (o : Option Nat) : Dp K H (vO o) (dO o) := by
  cases o with
  | none => exact .non
  | some n => exact .int _
theorem sh_dO {o : Option Nat} (h : ∀ x, o = some x → x ≤ 10 ^ 41) : Sh 0 140 (dO o) := by
  cases o with
  | none => exact Sh.none.mono (Nat.le_refl _) (by omega)
  | some x => exact sh_nat (h x rfl)
theorem dpAll2 {H : Hp} {x y : V} {d e : PyData} (h1 : Dp K H x d) (h2 : Dp K H y e) : DpAll K H [x, y] [d, e] := .cons h1 (.cons h2 .nil)
theorem dec_vstr (x : Str) : (!decide (V.str x = V.str x)) = false := by simp
theorem et_reprNe {σ : L2.St} {H : Hp} {ta tb : TE} {x : Str} (ha : Ev ta σ H (.str x)) (hb : Ev tb σ H (.str x)) : EvT (tTest (tOp rNe ta tb)) σ H false := by
  refine et_is (et_test (ev_op ha hb (rv_ne rfl))) ?_
  exact dec_vstr x
theorem sum_take1 (ws : List Nat) {B : Nat} (h : ∀ x ∈ ws, x ≤ B) : ∃ S : Nat, ((ws.take 1).map fun (n : Nat) => (n : Int)).sum = (S : Int) ∧ S ≤ B := by
  cases ws with
  | nil => exact ⟨0, rfl, Nat.zero_le _⟩
  | cons x t => exact ⟨x, by simp, h x List.mem_cons_self⟩
theorem consP {Q : Int → Prop} {m : Nat} (z : Int) (js : List Int) (hz : Q z) (hj : js.length = m ∧ ∀ z ∈ js, Q z) : (z :: js).length = m + 1 ∧ ∀ x ∈ z :: js, Q x :=
  ⟨by rw [List.length_cons, hj.1], fun x hx => by
    rcases List.mem_cons.mp hx with e | hx
    · rw [e]; exact hz
    · exact hj.2 x hx⟩
theorem cons0 {Q : Int → Prop} (z : Int) (js : List Int) (hz : Q z) (hj : js = []) : (z :: js).length = 1 ∧ ∀ x ∈ z :: js, Q x := by
  subst hj
  exact consP z [] hz ⟨rfl, fun x hx => by cases hx⟩
theorem el_takeN {σ : L2.St} {H : Hp} {te : TE} {a : Addr} {ws : List Nat} (n : Nat) (h : Ev te σ H (.ref a)) (hs : SqL K H a (nl ws)) : EvL (tSl (rSlL K) te tNoPart (tPart (tC (.int (n : Int))))) σ H (il ((ws.take n).map fun (n : Nat) => (n : Int))) := by
  have := el_sl (K := K) h eo_none (eo_some (te := tC (.int (n : Int))) (i := (n : Int)) ev_c) hs
  rw [cutV_0n, nl_take, nl_il (ws.take n)] at this
  exact this
/-- a display joined with a list -/
theorem Ev_cat {σ : L2.St} {G H : Hp} {ta tb : TE} {tr : TA} {p : Addr} {vs xs : List V} (e : Ex G H) (h : EvA tr σ H vs) (hb : Ev tb σ H (.ref p)) (hp : G p = some (.lst xs)) (hl : vs.length + xs.length ≤ 100000) : EvL (tOp rCat (tLst tr) tb) σ H (vs ++ xs) := by
  intro H1 e1 Q q
  refine h H1 e1 _ fun H2 e2 => ⟨sz_of (by omega), fun p1 hp1 => ?_⟩
  have e3 : Ex H2 (upd H2 p1 (.lst vs)) := Ex.new hp1
  refine hb _ ((e1.trans e2).trans e3) _ fun H4 e4 => ?_
  refine ⟨p1, p, vs, xs, rfl, rfl, e4 _ _ upd_same, (((e.trans e1).trans e2).trans (e3.trans e4)) _ _ hp, sz_of hl, fun p3 hp3 => ?_⟩
  exact q p3 _ (fresh_back (e2.trans (e3.trans e4)) hp3) ((e2.trans (e3.trans e4)).trans (Ex.new hp3)) upd_same
theorem enl_le {n : Addr} {k1 k2 j : Nat} {G : Hp} {σ : L2.St} {te : TE} {P : List Int → Prop} (h : EvNL n k1 k2 G te σ P) (hj : k1 ≤ j) : EvNL n j k2 G te σ P := fun H w Q q => h H (w.le hj) Q q
end

/-! ### widths drawn, the second family -/
section
variable {n : Addr} {k k1 k2 : Nat} {G H : Hp} {σ : L2.St} {ta te : TE} {K : PySem.W.Frag} {Pz : Int → Prop} {D : Ends} {tz : TS}
/-- xs.append(a drawn number) -/
theorem n_app {l : Addr} {xs : List V} (h : EvN n k k1 (upd G l (.lst xs)) te σ Pz) (ho : Ev ta σ (upd G l (.lst xs)) (.ref l)) (hl : xs.length < 100000) (w : Wn n k (upd G l (.lst xs)) H)
    (q : ∀ z H1, Pz z → Wn n k1 (upd G l (.lst (xs ++ [.int z]))) H1 → D.nx σ H1) : tDrop (tBM K "list" rAppend ta (tCons te tNil)) D σ H :=
  ho H w.ex _ fun H1 e1 => ⟨Or.inl ⟨rfl, xs, sq_of ((w.step e1).ex l _ upd_same)⟩, h H1 (w.step e1) _ fun z H2 pz w2 => ⟨l, xs, .int z, rfl, rfl, w2.ex _ _ upd_same, sz_lt hl, q z _ pz w2.write⟩⟩
end
section
variable {P : Program} {w : World} {K : PySem.W.Frag} {mg : Str → Option Value} {base : Heap}
def sp__law_chain (K : PySem.W.Frag) : Sp := fun vs H Q _ => ∃ (n : Addr) (most top k : Nat), vs = [.ref n, .int (most : Int), .int (top : Int)] ∧ most ≤ 1000 ∧ 1 ≤ top ∧ top ≤ 10000 ∧ Nb n (k + 2 + 4 * most) H ∧
  ∀ (p : Addr) (ws : List Nat) (H' : Hp), H p = none → p ≠ n → ExB n H H' → H' p = some (.lst (nl ws)) → (∀ x ∈ ws, 1 ≤ x ∧ x ≤ top) → ws.length ≤ most → Nb n k H' → Q (.ref p) H'
theorem ok__law_chain (T : Env K mg) : Callee P w K mg base CX0 2 "_law_chain" ["bag", "most", "top"] [] (sp__law_chain K) := by
  have C__law_take := ok__law_take (P := P) (w := w) (base := base) T
  refine callee_of T.g__law_chain T.d__law_chain sc__law_chain (fun _ _ _ _ _ _ us hl => match us, hl with | [_, _, _], _ => rfl) (fun vs H Q E h => by first | (obtain ⟨rfl, _⟩ := h; rfl) | (obtain ⟨_, rfl, _⟩ := h; rfl) | (obtain ⟨_, _, rfl, _⟩ := h; rfl) | (obtain ⟨_, _, _, rfl, _⟩ := h; rfl) | (obtain ⟨_, _, _, _, rfl, _⟩ := h; rfl) | (obtain ⟨_, _, _, _, _, rfl, _⟩ := h; rfl) | (obtain ⟨_, _, _, _, _, _, rfl, _⟩ := h; rfl) | (obtain ⟨_, _, _, _, _, _, _, rfl, _⟩ := h; rfl) | (obtain ⟨_, _, _, _, _, _, _, _, rfl, _⟩ := h; rfl)) ?_
  intro cdv f A outer s H vs Q E hr h
  refine ⟨_, (pss_cons (ps_par (i := 3) (j := 4) (by rfl) sc__law_chain.nd rfl rfl (by decide) rfl rfl (pa_cons (pe_lst pa_nil) (pa_cons (Hw.pe_cc C__law_take (hr.mono (by decide)) (by rfl) pass0 (pa_cons (pv 0) (pa_cons pe_int pa_nil))) pa_nil)) (by rfl))
      (pss_cons (ps_for PassesOwn.never rfl (pi_range1 (by rfl) T.n_range (pa_cons (Hw.pe_cc C__law_take (hr.mono (by decide)) (by rfl) pass0 (pa_cons (pv 0) (pa_cons (pe_op op_add (pv 1) pe_int) pa_nil))) pa_nil)) (pg_name (i := 5) sc__law_chain.nd rfl (Or.inl rfl))
      (pss_cons (ps_set (i := 6) sc__law_chain.nd rfl (Or.inl rfl) (pe_ifExp (pt_cmpR (op_neD hr.units) (pv 3) (pe_lst pa_nil) (nomark _)) (pe_ix ix_list (pv 3) (pe_un un_neg pe_int) (fun _ _ => rfl)) (pv 2)))
      (pss_cons (ps_set (i := 7) sc__law_chain.nd rfl (Or.inl rfl) (pe_op op_add pe_int (Hw.pe_cc C__law_take (hr.mono (by decide)) (by rfl) pass0 (pa_cons (pv 0) (pa_cons (pv 6) pa_nil)))))
      (pss_cons (ps_set (i := 8) sc__law_chain.nd rfl (Or.inl rfl) (pe_op op_sub (pe_op op_add (pe_op op_fdivW (pv 6) (pe_op op_add pe_int (Hw.pe_cc C__law_take (hr.mono (by decide)) (by rfl) pass0 (pa_cons (pv 0) (pa_cons pe_int pa_nil))))) (Hw.pe_cc C__law_take (hr.mono (by decide)) (by rfl) pass0 (pa_cons (pv 0) (pa_cons pe_int pa_nil)))) pe_int))
      (pss_one (ps_expr (pe_bm PySem.F.plainAttrs_list PySem.F.slot_list_append PySem.F.type_list_append mt_append (pv 3) (pa_cons (pe_ix ix_list (pe_lst (pa_cons (pe_op op_add pe_int (Hw.pe_cc C__law_take (hr.mono (by decide)) (by rfl) pass0 (pa_cons (pv 0) (pa_cons (pv 2) pa_nil)))) (pa_cons (pv 7) (pa_cons (pe_callB (call_min2 (by rfl)) (by rfl) T.n_min (by decide +kernel) (pa_cons (pv 2) (pa_cons (pe_callB (call_max2 (by rfl)) (by rfl) T.n_max (by decide +kernel) (pa_cons pe_int (pa_cons (pv 8) pa_nil))) pa_nil))) (pa_cons (pv 7) pa_nil))))) (pv 4) (fun _ _ => rfl)) pa_nil))))))))
      (pss_one (ps_ret (pv 3))))), ?_⟩
  obtain ⟨n, most, top, k, rfl, hm, ht1, ht2, hnb, q⟩ := h
  have w0 := Wn.of hnb
  refine ⟨Nat.zero_le _, fun l0 hl0 => ?_⟩
  have g0 : rm n H l0 = none := fresh_back (rm_ex n H) hl0
  have w1 := w0.new hl0 (Ex.new hl0) (upd_same (o := .lst (nl [])))
  refine en_pick (m := 4) (k := k + 1 + 4 * most) rfl ev_c (by decide) (by decide) _ (w1.le (by omega)) _ fun z H2 hz w2 => ?_
  obtain ⟨sty, rfl, hsty⟩ := hz
  refine ⟨_, _, rfl, ?_⟩
  refine n_forR1 (k1 := k + 4 * most) (B := most) (ena_cons (Pa := fun z => ∃ r : Nat, z = (r : Int) ∧ r < most + 1) (en_le (en_pick (k := k + 4 * most) rfl (ev_op (ev_var rfl) (ev_n 1) rv_addN) (Nat.succ_pos _) (by omega)) (by omega)) (ena_nil (P := fun js => js = []) rfl) (fun z js ⟨r, h1, h2⟩ h3 => ⟨r, by rw [h1, h3], by omega⟩)) (by omega) w2
    (fun i σ' H' => ∃ (ws : List Nat) (v5 v6 v7 v8 : Option V), σ' = [some (.ref n), some (.int (most : Int)), some (.int (top : Int)), some (.ref l0), some (.int (sty : Int)), v5, v6, v7, v8] ∧ Wn n (k + 4 * (most - i)) (upd (rm n H) l0 (.lst (nl ws))) H' ∧ (∀ x ∈ ws, 1 ≤ x ∧ x ≤ top) ∧ ws.length ≤ i)
    (fun H2 w2 => ⟨[], none, none, none, none, rfl, w2.le (by omega), fun x hx => (by cases hx), Nat.le_refl _⟩) ?_ ?_
  · intro i σ' H' hi ⟨ws, v5, v6, v7, v8, hσ, w, hws, hlen⟩
    subst hσ
    obtain ⟨kk, hkk⟩ : ∃ kk, kk = k + 4 * (most - (i + 1)) := ⟨_, rfl⟩
    have w := w.le (j := kk + 4) (by omega)
    have hsl : SqL K (upd (rm n H) l0 (.lst (nl ws))) l0 (nl ws) := sq_of upd_same
    have hlast : 1 ≤ ws.getLastD top ∧ ws.getLastD top ≤ top := by
      rw [List.getLastD_eq_getLast?]
      cases e : ws.getLast? with
      | none => exact ⟨ht1, Nat.le_refl _⟩
      | some x => exact hws x (List.mem_of_getLast? e)
    refine q_asg (v := .int (ws.getLastD top : Nat)) (Ev.mono w.ex (ev_if (b := !decide (ws = [])) (et_test (ev_nilNe (ev_var rfl) hsl)) (fun hb => ?_) (fun hb => ?_))) fun H3 e3 => ?_
    · have hne : ws ≠ [] := by simpa using hb
      refine ev_op (ev_var rfl) (ev_un ev_c ru_neg) (rv_ixL hsl (nl_last ?_))
      rw [List.getLastD_eq_getLast?, List.getLast?_eq_some_getLast hne]
      rfl
    · have hne : ws = [] := by simpa using hb
      subst hne
      exact ev_var rfl
    have w3 := w.step e3
    obtain ⟨la, hla⟩ : ∃ la, la = ws.getLastD top := ⟨_, rfl⟩
    rw [← hla] at hlast ⊢
    refine n_asg (k1 := kk + 3) (Pz := fun z => ∃ m : Nat, z = (m : Int) ∧ 1 ≤ m ∧ m ≤ top) (en_I0 (Pa := fun z => z = 1) (en_pure ev_c rfl) (en_pick (m := la) rfl (ev_var rfl) (by omega) (by omega)) fun z z' h1 ⟨r, h2, h3⟩ => ⟨1 + r, by omega, by omega, by omega⟩) w3 ?_
    rintro z H4 ⟨be, rfl, hb1, hb2⟩ w4
    refine n_asg (k1 := kk + 1) (Pz := fun _ => True) (en_I0 (Pa := fun _ => True) (Pb := fun _ => True) (en_I0 (Pa := fun _ => True) (Pb := fun _ => True) (en_I (k1 := kk + 3) (Pa := fun z => z = (la : Int)) (Pb := fun z => ∃ r : Nat, z = (r : Int) ∧ 1 ≤ r ∧ r ≤ 4) (en_pure (ev_var rfl) rfl) (en_I0 (Pa := fun z => z = 1) (en_pure ev_c rfl) (en_pick (m := 4) rfl ev_c (by decide) (by decide)) fun z z' h1 ⟨r, h2, h3⟩ => ⟨1 + r, by omega, by omega, by omega⟩) fun z z' h1 ⟨r, h2, h3, h4⟩ => ⟨wide_div (b := 3) (by omega) (by rw [h2, Int.natAbs_natCast]; omega) (by decide) (by decide), trivial⟩) (en_imp (en_pick (m := 3) rfl ev_c (by decide) (by decide)) fun _ _ => trivial) fun _ _ _ _ => trivial) (en_pure ev_c trivial) fun _ _ _ _ => trivial) w4 ?_
    intro z H5 _ w5
    refine n_app (k1 := kk) (Pz := fun z => ∃ m : Nat, z = (m : Int) ∧ 1 ≤ m ∧ m ≤ top) (en_ixD (P := fun js => js.length = 4 ∧ ∀ z ∈ js, ∃ m : Nat, z = (m : Int) ∧ 1 ≤ m ∧ m ≤ top) (enl_lst (ena_cons (Pa := fun z => ∃ m : Nat, z = (m : Int) ∧ 1 ≤ m ∧ m ≤ top) (Pr := fun js => js.length = 3 ∧ ∀ z ∈ js, ∃ m : Nat, z = (m : Int) ∧ 1 ≤ m ∧ m ≤ top) (en_I0 (Pa := fun z => z = 1) (en_pure ev_c rfl) (en_pick (m := top) rfl (ev_var rfl) (by omega) (by omega)) fun z z' h1 ⟨r, h2, h3⟩ => ⟨1 + r, by omega, by omega, by omega⟩)
        (ena_cons (Pa := fun z => ∃ m : Nat, z = (m : Int) ∧ 1 ≤ m ∧ m ≤ top) (Pr := fun js => js.length = 2 ∧ ∀ z ∈ js, ∃ m : Nat, z = (m : Int) ∧ 1 ≤ m ∧ m ≤ top) (en_pure (ev_var rfl) ⟨be, rfl, hb1, hb2⟩)
        (ena_cons (Pa := fun z => ∃ m : Nat, z = (m : Int) ∧ 1 ≤ m ∧ m ≤ top) (Pr := fun js => js.length = 1 ∧ ∀ z ∈ js, ∃ m : Nat, z = (m : Int) ∧ 1 ≤ m ∧ m ≤ top) (en_min2 (Pa := fun z => z = (top : Int)) (Pb := fun z => 1 ≤ z) (en_pure (ev_var rfl) rfl) (en_max2 (Pa := fun z => z = 1) (Pb := fun _ => True) (en_pure ev_c rfl) (en_pure (ev_var rfl) trivial) fun a b h1 _ => by subst h1; split <;> omega) fun a b h1 h2 => by subst h1; exact ⟨(if b < (top : Int) then b else (top : Int)).toNat, by split <;> omega, by split <;> omega, by split <;> omega⟩)
        (ena_cons (Pa := fun z => ∃ m : Nat, z = (m : Int) ∧ 1 ≤ m ∧ m ≤ top) (Pr := fun js => js = []) (en_pure (ev_var rfl) ⟨be, rfl, hb1, hb2⟩) (ena_nil rfl) fun z js hz h => cons0 z js hz h) fun z js hz h => consP z js hz h) fun z js hz h => consP z js hz h) fun z js hz h => consP z js hz h) (fun js h => by rw [h.1]; decide))
      (fun js p h hp => en_pure (ev_var rfl) ⟨by omega, by rw [h.1]; omega⟩) fun js h => h.2) (ev_var rfl) (by rw [nl_len]; omega) w5 ?_
    rintro z H6 ⟨x, rfl, hx1, hx2⟩ w6
    refine ⟨ws ++ [x], _, _, _, _, rfl, ?_, ?_, by rw [List.length_append]; simp only [List.length_cons, List.length_nil]; omega⟩
    · rw [← hkk, nl_append]
      exact w6
    · intro y hy
      rcases List.mem_append.mp hy with hy | hy
      · exact hws y hy
      · rw [List.mem_singleton.mp hy]
        exact ⟨hx1, hx2⟩
  · rintro i σ' H' hi ⟨ws, v5, v6, v7, v8, rfl, w, hws, hlen⟩
    refine s_ret (ev_var rfl) fun H2 e2 => ?_
    have w2 := w.step e2
    have ln : l0 ≠ n := w2.at_ne upd_same
    refine q l0 ws H2 hl0 ln ?_ (w2.ex _ _ upd_same) hws (by omega) (w2.le (by omega)).nb
    intro y o hy ho
    refine w2.ex y o ?_
    have hyl : y ≠ l0 := ne_of_none ho hl0
    rw [upd_ne hyl, rm_ne hy]
    exact ho
end
section
variable {n : Addr} {k : Nat} {G H : Hp} {σ : L2.St} {K : PySem.W.Frag} {D : Ends} {tz : TS} {i : Nat}
/-- chain = _law_chain(bag, most, top) : the call itself -/
def EvNW (n : Addr) (k k' : Nat) (G : Hp) (te : TE) (σ : L2.St) (P : List Nat → Prop) : Prop :=
  ∀ H, Wn n k G H → ∀ Q : VK, (∀ ws p H', P ws → G p = none → p ≠ n → Wn n k' (upd G p (.lst (nl ws))) H' → Q (.ref p) H') → te σ H Q
theorem enw_chain {E : XK} {x most : Nat} {k1 : Nat} {Pt : Nat → Prop} {B : Nat} {tb tc : TE} (hv : σ[x]? = some (some (.ref n))) (hb : Ev tb σ G (.int (most : Int))) (hm : most ≤ 1000) (hc : EvN n k1 (k + 2 + 4 * most) G tc σ fun z => ∃ t : Nat, z = (t : Int) ∧ 1 ≤ t ∧ t ≤ B) (hB : B ≤ 10000) :
    EvNW n k1 k G (tCall (sp__law_chain K) [] E (tCons (tVar x) (tCons tb (tCons tc tNil)))) σ fun ws => (∀ x ∈ ws, 1 ≤ x ∧ x ≤ B) ∧ ws.length ≤ most := by
  intro H w Q q
  refine ⟨_, hv, ?_⟩
  refine hb H w.ex _ fun H1 e1 => ?_
  refine hc H1 (w.step e1) _ fun z H2 hz w2 => ?_
  obtain ⟨t, rfl, ht1, ht2⟩ := hz
  refine ⟨n, most, t, k, rfl, hm, ht1, by omega, w2.nb, fun p ws H3 hp ne eb h3 hws hl nb => ?_⟩
  have w3 := w2.exB eb nb
  have gp := fresh_back w2.ex hp
  refine q ws p H3 ⟨fun x hx => ⟨(hws x hx).1, by have := (hws x hx).2; omega⟩, hl⟩ gp ne ⟨by rw [upd_ne (Ne.symm ne)]; exact w3.off, fun y o hy => ?_, nb⟩
  by_cases z : y = p
  · subst z
    rw [upd_same] at hy
    cases hy
    exact h3
  · rw [upd_ne z] at hy
    exact w3.ex y o hy
end

/-! ### pieces of wrapped lines; columns of pieces -/
section
variable {P : Program} {w : World} {K : PySem.W.Frag} {mg : Str → Option Value} {base : Heap}
theorem nl_rep (k x : Nat) : List.replicate k (V.int (x : Int)) = nl (List.replicate k x) := by simp [nl]
/-- [n] * int(n > 0) -/
theorem el_rep01 {σ : L2.St} {H : Hp} {tx ty : TE} {n : Nat} (hx : Ev tx σ H (.int (n : Int))) (hy : Ev ty σ H (.int (n : Int))) : EvL (tOp rRep (tLst (tCons tx tNil)) (tCB (fun xs H Q => (∃ i, xs = [.int i] ∧ Q (.int i) H) ∨ ∃ k, xs = [.bl k] ∧ Q (.int (if k then 1 else 0)) H) (tCons (tOp (rI0 fun i j => .bl (decide (j < i))) ty (tC (.int 0))) tNil))) σ H (nl (List.replicate (if 0 < n then 1 else 0) n)) := by
  rw [← nl_rep]
  refine el_rep1 (el_lst (ea_cons hx ea_nil) (show 1 ≤ 100000 by decide)) (fun H1 e1 => ?_) (by split <;> omega)
  refine ev_is (ev_cb (ea_cons (ev_op (Ev.mono e1 hy) ev_c rv_I0) ea_nil) rc_intb) ?_
  by_cases h : 0 < n
  · have h2 : (0 : Int) < (n : Int) := by omega
    simp [h, h2]
  · have h2 : ¬ (0 : Int) < (n : Int) := by omega
    simp [h, h2]
def sp__law_broken (K : PySem.W.Frag) : Sp := fun vs H Q _ => ∃ (a : Addr) (ws : List Nat) (n : Nat), vs = [.ref a, .int (n : Int)] ∧ SqL K H a (nl ws) ∧ Wd ws ∧ ws.length ≤ 40000 ∧ n ≤ 40000 ∧ RetL (nl (brk ws n)) H Q
theorem take_snoc {α : Type} {ws : List α} {i : Nat} {n : α} (h : ws[i]? = some n) : ws.take (i + 1) = ws.take i ++ [n] := by
  rw [List.take_add_one, h]
  rfl
theorem ok__law_broken (T : Env K mg) : Callee P w K mg base CX0 1 "_law_broken" ["chain", "span"] [] (sp__law_broken K) := by
  refine callee_of T.g__law_broken T.d__law_broken sc__law_broken (fun _ _ _ _ _ _ us hl => match us, hl with | [_, _], _ => rfl) (fun vs H Q E h => by first | (obtain ⟨rfl, _⟩ := h; rfl) | (obtain ⟨_, rfl, _⟩ := h; rfl) | (obtain ⟨_, _, rfl, _⟩ := h; rfl) | (obtain ⟨_, _, _, rfl, _⟩ := h; rfl) | (obtain ⟨_, _, _, _, rfl, _⟩ := h; rfl) | (obtain ⟨_, _, _, _, _, rfl, _⟩ := h; rfl) | (obtain ⟨_, _, _, _, _, _, rfl, _⟩ := h; rfl) | (obtain ⟨_, _, _, _, _, _, _, rfl, _⟩ := h; rfl) | (obtain ⟨_, _, _, _, _, _, _, _, rfl, _⟩ := h; rfl)) ?_
  intro cdv f A outer s H vs Q E hr h
  refine ⟨_, (pss_cons (ps_set (i := 2) sc__law_broken.nd rfl (Or.inl rfl) (pe_op op_rep (pe_lst (pa_cons (pv 1) pa_nil)) (pe_callTy call_int1 (by rfl) T.n_int (by decide +kernel) (pa_cons (pe_cmpR op_gt (pv 1) pe_int (nomark _)) pa_nil))))
      (pss_cons (ps_for PassesOwn.never rfl (pi_list (pv 0)) (pg_name (i := 3) sc__law_broken.nd rfl (Or.inl rfl))
      (pss_cons (ps_set (i := 4) sc__law_broken.nd rfl (Or.inl rfl) (pe_lst pa_nil))
      (pss_cons (ps_for PassesOwn.never rfl (pi_list (pv 2)) (pg_name (i := 5) sc__law_broken.nd rfl (Or.inl rfl))
      (pss_cons (ps_asg (pe_callB call_divmod (by rfl) T.n_divmod (by decide +kernel) (pa_cons (pv 5) (pa_cons (pv 3) pa_nil))) (pg_tup (by rfl) (pgs_cons (pg_name (i := 6) sc__law_broken.nd rfl (Or.inl rfl)) (pgs_cons (pg_name (i := 7) sc__law_broken.nd rfl (Or.inl rfl)) pgs_nil))))
      (pss_one (ps_expr (pe_bm PySem.F.plainAttrs_list PySem.F.slot_list_extend PySem.F.type_list_extend mt_extend (pv 4) (pa_cons (pe_op op_cat (pe_op op_rep (pe_lst (pa_cons (pv 3) pa_nil)) (pv 6)) (pe_op op_rep (pe_lst (pa_cons (pv 7) pa_nil)) (pe_callTy call_int1 (by rfl) T.n_int (by decide +kernel) (pa_cons (pe_cmpR op_gt (pv 7) pe_int (nomark _)) pa_nil)))) pa_nil))))))
      (pss_one (ps_set (i := 2) sc__law_broken.nd rfl (Or.inl rfl) (pv 4))))))
      (pss_one (ps_ret (pv 2))))), ?_⟩
  obtain ⟨a, ws, n, rfl, hs, hw, hl, hn, q⟩ := h
  have hb0 : Pos (brk0 n) := by
    have := brk_pos (ws := []) (fun x hx => by cases hx) n
    exact this
  refine q_asgL (xs := nl (brk0 n)) (el_rep01 (ev_var rfl) (ev_var rfl)) fun l0 H1 hl0 e1 h1 => ?_
  refine q_forLn (ev_var rfl) (ex_l e1 hs) (fun i σ' H' => ∃ (l : Addr) (v3 v4 v5 v6 v7 : Option V), σ' = [some (.ref a), some (.int (n : Int)), some (.ref l), v3, v4, v5, v6, v7] ∧ H l = none ∧ Ex H H' ∧ H' l = some (.lst (nl (brkGo (ws.take i) (brk0 n)))))
    (fun H2 e2 => ⟨l0, none, none, none, none, none, rfl, hl0, e1.trans e2, e2 _ _ h1⟩) (fun i σ' H' _ ⟨_, _, _, _, _, _, _, _, e, _⟩ => ex_l e hs) ?_ ?_
  · rintro i x σ' H' hi ⟨l, v3, v4, v5, v6, v7, rfl, hfl, e, hh⟩
    obtain ⟨m, hm, rfl⟩ := nl_get' hi
    have hmw := hw m (List.mem_of_getElem? hm)
    have hpt : Pos (ws.take i) := fun x hx => (hw x (List.mem_of_mem_take hx)).1
    obtain ⟨S, hS⟩ : ∃ S, S = brkGo (ws.take i) (brk0 n) := ⟨_, rfl⟩
    have hSp : Pos S := by rw [hS]; exact brkGo_pos _ _ hpt hb0
    have hSs : S.sum = n := by rw [hS]; exact brk_sum hpt n
    rw [← hS] at hh
    refine q_asgL (el_lst ea_nil (by decide)) fun l2 H2 hl2 e2 h2 => ?_
    have ne : l ≠ l2 := ne_of_none hh hl2
    have hf2 : H l2 = none := fresh_back e hl2
    refine q_forLn (ev_var rfl) (sq_of (e2 _ _ hh)) (fun j σ'' H'' => ∃ (v5 v6 v7 : Option V), σ'' = [some (.ref a), some (.int (n : Int)), some (.ref l), some (.int (m : Int)), some (.ref l2), v5, v6, v7] ∧ Ex H H'' ∧ H'' l = some (.lst (nl S)) ∧ H'' l2 = some (.lst (nl (brk1 m (S.take j)))))
      (fun H3 e3 => ⟨_, _, _, rfl, (e.trans e2).trans e3, e3 _ _ (e2 _ _ hh), e3 _ _ h2⟩) (fun j σ'' H'' _ ⟨_, _, _, _, _, h, _⟩ => sq_of h) ?_ ?_
    · rintro j y σ'' H'' hj ⟨v5, v6, v7, rfl, e3, h3, h4⟩
      obtain ⟨s, hs2, rfl⟩ := nl_get' hj
      refine q_divmod (ea_cons (ev_var rfl) (ea_cons (ev_var rfl) ea_nil)) ⟨hmw.1, by omega⟩ fun H4 e4 => ?_
      have step : brk1 m (S.take (j + 1)) = brk1 m (S.take j) ++ (List.replicate (s / m) m ++ List.replicate (if 0 < s % m then 1 else 0) (s % m)) := by
        rw [take_snoc hs2, brk1_append, brk1_one]
      have hlen : (brk1 m (S.take (j + 1))).length ≤ n := by
        refine Nat.le_trans (len_le_sum (brk1_pos hmw.1 _)) ?_
        have := brkGo_sum (ws := [m]) (fun x hx => by rw [List.mem_singleton.mp hx]; exact hmw.1) (S.take (j + 1))
        have e5 : brkGo [m] (S.take (j + 1)) = brk1 m (S.take (j + 1)) := rfl
        rw [e5] at this
        rw [this, ← hSs]
        conv => rhs; rw [← List.take_append_drop (j + 1) S, List.sum_append]
        omega
      have hsn : s ≤ n := by
        rw [← hSs]
        exact mem_le_sum (List.mem_of_getElem? hs2)
      have hq : s / m ≤ s := Nat.div_le_self _ _
      refine s_ext (xs := nl (brk1 m (S.take j))) (ys := nl (List.replicate (s / m) m ++ List.replicate (if 0 < s % m then 1 else 0) (s % m))) (e4 _ _ h4) (ev_var rfl) ?_ ?_ fun H5 e5 => ?_
      · rw [nl_append]
        refine el_catLL ?_ (el_rep01 (ev_var rfl) (ev_var rfl)) ?_
        · rw [← nl_rep]
          exact el_rep1 (el_lst (ea_cons (ev_var rfl) ea_nil) (show 1 ≤ 100000 by decide)) (fun H6 e6 => ev_var rfl) (by omega)
        · rw [nl_len, nl_len, List.length_replicate, List.length_replicate]
          split <;> omega
      · rw [step, List.length_append] at hlen
        rw [nl_len, nl_len]
        omega
      · refine ⟨_, _, _, rfl, ((e3.trans e4).trans e5).mut hf2, ?_, ?_⟩
        · rw [upd_ne ne]
          exact e5 _ _ (e4 _ _ h3)
        · rw [upd_same, step, nl_append (brk1 m (S.take j))]
    · rintro σ'' H'' ⟨v5, v6, v7, rfl, e3, h3, h4⟩
      rw [nl_len, List.take_length] at h4
      refine s_asg (v := .ref l2) (ev_var rfl) fun H4 e4 => ⟨l2, _, _, _, _, _, rfl, hf2, e3.trans e4, ?_⟩
      rw [take_snoc hm, brkGo_snoc, ← hS]
      exact e4 _ _ h4
  · rintro σ' H' ⟨l, v3, v4, v5, v6, v7, rfl, hfl, e, hh⟩
    rw [nl_len, List.take_length] at hh
    exact s_ret (ev_var rfl) fun H2 e2 => q l H2 hfl (e.trans e2) (e2 _ _ hh)
def sp_colsL (K : PySem.W.Frag) : Sp := fun vs H Q _ => ∃ (a : Addr) (sz : List Nat), vs = [.ref a] ∧ SqL K H a (nl sz) ∧ sz.sum ≤ 40000 ∧ RetL (nl (colsL sz)) H Q
theorem colsL_take {sz : List Nat} {i s : Nat} (h : sz[i]? = some s) : colsL (sz.take (i + 1)) = colsL (sz.take i) ++ List.range s := by
  rw [take_snoc h, colsL_append]
  simp [colsL]
theorem colsL_take_len (sz : List Nat) (i : Nat) : (colsL (sz.take i)).length ≤ sz.sum := by
  rw [colsL_len]
  conv => rhs; rw [← List.take_append_drop i sz, List.sum_append]
  omega
theorem ok__law_cols (T : Env K mg) : Callee P w K mg base CX0 1 "_law_cols" ["sizes"] [] (sp_colsL K) := by
  refine callee_of T.g__law_cols T.d__law_cols sc__law_cols (fun _ _ _ _ _ _ us hl => match us, hl with | [_], _ => rfl) (fun vs H Q E h => by first | (obtain ⟨rfl, _⟩ := h; rfl) | (obtain ⟨_, rfl, _⟩ := h; rfl) | (obtain ⟨_, _, rfl, _⟩ := h; rfl) | (obtain ⟨_, _, _, rfl, _⟩ := h; rfl) | (obtain ⟨_, _, _, _, rfl, _⟩ := h; rfl) | (obtain ⟨_, _, _, _, _, rfl, _⟩ := h; rfl) | (obtain ⟨_, _, _, _, _, _, rfl, _⟩ := h; rfl) | (obtain ⟨_, _, _, _, _, _, _, rfl, _⟩ := h; rfl) | (obtain ⟨_, _, _, _, _, _, _, _, rfl, _⟩ := h; rfl)) ?_
  intro cdv f A outer s H vs Q E hr h
  refine ⟨_, (pss_cons (ps_set (i := 1) sc__law_cols.nd rfl (Or.inl rfl) (pe_lst pa_nil))
      (pss_cons (ps_for PassesOwn.never rfl (pi_list (pv 0)) (pg_name (i := 2) sc__law_cols.nd rfl (Or.inl rfl))
      (pss_one (ps_expr (pe_bm PySem.F.plainAttrs_list PySem.F.slot_list_extend PySem.F.type_list_extend mt_extend (pv 1) (pa_cons (pe_listRg (by rfl) (by rfl) T.n_list (prg_1 (by rfl) T.n_range (pv 2))) pa_nil)))))
      (pss_one (ps_ret (pv 1))))), ?_⟩
  obtain ⟨a, sz, rfl, hs, hl, q⟩ := h
  refine q_asgL (el_lst ea_nil (by decide)) fun l H1 hl0 e1 h1 => ?_
  refine q_forLn (ev_var rfl) (ex_l e1 hs) (fun i σ' H' => ∃ v, σ' = [some (.ref a), some (.ref l), v] ∧ Ex H H' ∧ H' l = some (.lst (nl (colsL (sz.take i))))) (fun H2 e2 => ⟨none, rfl, e1.trans e2, e2 _ _ h1⟩) (fun i σ' H' _ ⟨_, _, e, _⟩ => ex_l e hs) ?_ ?_
  · rintro i x σ' H' hi ⟨v, rfl, e, hh⟩
    obtain ⟨s, hs2, rfl⟩ := nl_get' hi
    have h3 := colsL_take hs2
    have h4 := colsL_take_len sz (i + 1)
    rw [h3, List.length_append, List.length_range] at h4
    refine s_ext (xs := nl (colsL (sz.take i))) (ys := nl (List.range s)) hh (ev_var rfl) (el_rg (ev_var rfl) (by omega)) (by rw [nl_len, nl_len, List.length_range]; omega) fun H2 e2 => ?_
    refine ⟨_, rfl, (e.trans e2).mut hl0, ?_⟩
    rw [upd_same, h3, nl_append]
  · rintro σ' H' ⟨v, rfl, e, hh⟩
    rw [nl_len, List.take_length] at hh
    exact s_ret (ev_var rfl) fun H2 e2 => q l H2 hl0 (e.trans e2) (e2 _ _ hh)
theorem ok_columns_of (T : Env K mg) : Callee P w K mg base CX0 1 "columns_of" ["sizes"] [] (sp_colsL K) := by
  refine callee_of T.g_columns_of T.d_columns_of sc_columns_of (fun _ _ _ _ _ _ us hl => match us, hl with | [_], _ => rfl) (fun vs H Q E h => by first | (obtain ⟨rfl, _⟩ := h; rfl) | (obtain ⟨_, rfl, _⟩ := h; rfl) | (obtain ⟨_, _, rfl, _⟩ := h; rfl) | (obtain ⟨_, _, _, rfl, _⟩ := h; rfl) | (obtain ⟨_, _, _, _, rfl, _⟩ := h; rfl) | (obtain ⟨_, _, _, _, _, rfl, _⟩ := h; rfl) | (obtain ⟨_, _, _, _, _, _, rfl, _⟩ := h; rfl) | (obtain ⟨_, _, _, _, _, _, _, rfl, _⟩ := h; rfl) | (obtain ⟨_, _, _, _, _, _, _, _, rfl, _⟩ := h; rfl)) ?_
  intro cdv f A outer s H vs Q E hr h
  refine ⟨_, (pss_cons (ps_set (i := 1) sc_columns_of.nd rfl (Or.inl rfl) (pe_lst pa_nil))
      (pss_cons (ps_for PassesOwn.never rfl (pi_list (pv 0)) (pg_name (i := 2) sc_columns_of.nd rfl (Or.inl rfl))
      (pss_one (ps_expr (pe_bm PySem.F.plainAttrs_list PySem.F.slot_list_extend PySem.F.type_list_extend mt_extend (pv 1) (pa_cons (pe_listRg (by rfl) (by rfl) T.n_list (prg_1 (by rfl) T.n_range (pv 2))) pa_nil)))))
      (pss_one (ps_ret (pv 1))))), ?_⟩
  obtain ⟨a, sz, rfl, hs, hl, q⟩ := h
  refine q_asgL (el_lst ea_nil (by decide)) fun l H1 hl0 e1 h1 => ?_
  refine q_forLn (ev_var rfl) (ex_l e1 hs) (fun i σ' H' => ∃ v, σ' = [some (.ref a), some (.ref l), v] ∧ Ex H H' ∧ H' l = some (.lst (nl (colsL (sz.take i))))) (fun H2 e2 => ⟨none, rfl, e1.trans e2, e2 _ _ h1⟩) (fun i σ' H' _ ⟨_, _, e, _⟩ => ex_l e hs) ?_ ?_
  · rintro i x σ' H' hi ⟨v, rfl, e, hh⟩
    obtain ⟨s, hs2, rfl⟩ := nl_get' hi
    have h3 := colsL_take hs2
    have h4 := colsL_take_len sz (i + 1)
    rw [h3, List.length_append, List.length_range] at h4
    refine s_ext (xs := nl (colsL (sz.take i))) (ys := nl (List.range s)) hh (ev_var rfl) (el_rg (ev_var rfl) (by omega)) (by rw [nl_len, nl_len, List.length_range]; omega) fun H2 e2 => ?_
    refine ⟨_, rfl, (e.trans e2).mut hl0, ?_⟩
    rw [upd_same, h3, nl_append]
  · rintro σ' H' ⟨v, rfl, e, hh⟩
    rw [nl_len, List.take_length] at hh
    exact s_ret (ev_var rfl) fun H2 e2 => q l H2 hl0 (e.trans e2) (e2 _ _ hh)
end

/-! ### module reading, what raises nothing -/
section
variable {P : Program} {w : World} {K : PySem.W.Frag} {mg : Str → Option Value} {base : Heap}
structure Pcs (sz : List Nat) : Prop where
  pos : Pos sz
  ne : sz ≠ []
  len : sz.length ≤ 400
  sum : sz.sum ≤ 10000
theorem Pcs.len1 {sz : List Nat} (h : Pcs sz) : 1 ≤ sz.length := by
  have := h.ne
  cases sz with
  | nil => exact absurd rfl this
  | cons x t => simp
theorem nl_sum (sz : List Nat) : ((sz.map fun (n : Nat) => (n : Int))).sum = (sz.sum : Nat) := by
  induction sz with
  | nil => rfl
  | cons x t ih => rw [List.map_cons, List.sum_cons, ih, List.sum_cons, Int.natCast_add]
theorem rc_sumN {H : Hp} {a : Addr} {sz : List Nat} (hs : SqL K H a (nl sz)) : RC (rSum K) [.ref a] H (.int (sz.sum : Nat)) := by
  rw [nl_il] at hs
  have := rc_sum hs
  rw [nl_sum] at this
  exact this
def sp_is_pieces (K : PySem.W.Frag) : Sp := fun vs H Q _ => ∃ (a : Addr) (sz : List Nat), vs = [.ref a] ∧ SqL K H a (nl sz) ∧ Pcs sz ∧ RetV (.bl true) H Q
theorem ok_is_pieces (T : Env K mg) : Callee P w K mg base CX0 2 "is_pieces" ["value"] [] (sp_is_pieces K) := by
  have C_is_integer := ok_is_integer (P := P) (w := w) (base := base) T
  refine callee_of T.g_is_pieces T.d_is_pieces sc_is_pieces (fun _ _ _ _ _ _ us hl => match us, hl with | [_], _ => rfl) (fun vs H Q E h => by first | (obtain ⟨rfl, _⟩ := h; rfl) | (obtain ⟨_, rfl, _⟩ := h; rfl) | (obtain ⟨_, _, rfl, _⟩ := h; rfl) | (obtain ⟨_, _, _, rfl, _⟩ := h; rfl) | (obtain ⟨_, _, _, _, rfl, _⟩ := h; rfl) | (obtain ⟨_, _, _, _, _, rfl, _⟩ := h; rfl) | (obtain ⟨_, _, _, _, _, _, rfl, _⟩ := h; rfl) | (obtain ⟨_, _, _, _, _, _, _, rfl, _⟩ := h; rfl) | (obtain ⟨_, _, _, _, _, _, _, _, rfl, _⟩ := h; rfl)) ?_
  intro cdv f A outer s H vs Q E hr h
  refine ⟨_, (pss_cons (ps_if (PW.pt (pw_or (pt_not (pt_val (pe_callB call_isi (by rfl) T.n_isinstance (by decide +kernel) (pa_cons (pv 0) (pa_cons (pe_bltn (v := .ty "list") (by rfl) T.n_list (by decide +kernel) rfl) pa_nil))))) (pw_or1 (pt_not (pt_chain op_le op_le pe_int (pe_callB call_len_seq (by rfl) T.n_len PySem.boot_len (pa_cons (pv 0) pa_nil)) (pe_glob (v := .int 400) (by rfl) T.c_MAX_PIECES.choose_spec ⟨_, rfl⟩)))))) (pss_one (ps_ret pe_bl)) pss_nil)
      (pss_one (ps_ret (pe_and (pe_callB (cr_all (by rfl)) (by rfl) T.n_all (by decide +kernel) (pa_cons (pe_lc (own := [("size", 1)]) (g := gName 1) rfl sc_is_pieces.nd (pi_list (pv 0)) (blkOk_by (own := [("size", 1)]) (N := ["value", "size"]) (sc := (defScope s_is_pieces)) (by decide +kernel)) (fun _ _ _ _ _ => (pg_name (i := 1) sc_is_pieces.nd rfl (Or.inl rfl))) (fun _ _ _ _ _ => pts_nil) (fun _ _ _ _ _ => (Hw.pe_cc C_is_integer (hr.mono (by decide)) (by rfl) pass0 (pa_cons (pv 1) (pa_cons pe_int (pa_cons (pe_glob (v := .int 10000) (by rfl) T.c_MAX_CHARACTERS.choose_spec ⟨_, rfl⟩) pa_nil)))))) pa_nil)) (pe_one (pe_cmpR op_le (pe_callB (cr_sum (by rfl)) (by rfl) T.n_sum (by decide +kernel) (pa_cons (pv 0) pa_nil)) (pe_glob (v := .int 10000) (by rfl) T.c_MAX_CHARACTERS.choose_spec ⟨_, rfl⟩) (nomark _))))))), ?_⟩
  obtain ⟨a, sz, rfl, hs, hp, q⟩ := h
  have l1 := hp.len1
  have l2 := hp.len
  have l3 := hp.sum
  refine q_when (b := !true || !true) (et_or (et_not (et_B (ev_cb (ea_cons (ev_var rfl) (ea_cons ev_c ea_nil)) (rc_isi_l hs (by decide +kernel))))) fun _ => et_not (et_is (a := decide ((1 : Int) ≤ (sz.length : Int)) && decide ((sz.length : Int) ≤ 400)) (et_B (ev_chain ev_c (ev_cb (ea_cons (ev_var rfl) ea_nil) (rc_lenN hs)) rv_I0 fun _ => ⟨ev_c, rv_I0⟩)) (by rw [decide_eq_true (by omega), decide_eq_true (by omega)]; rfl))) (fun hb => by cases hb) fun _ H1 e1 => ?_
  refine s_ret (v := .bl ((List.replicate sz.length true).all id && true)) ?_ fun H2 e2 => by rw [show ((List.replicate sz.length true).all id && true) = true by simp]; exact q H2 (e1.trans e2)
  refine ev_andV ?_ fun _ => ?_
  · refine ev_cbL (el_lcL (fun _ => true) (fun _ => .bl true) (ev_var rfl) (ex_l e1 hs) (by rw [nl_len]; omega) (fun _ => rfl) (fun i x H1 e hx => et_yes) fun i x H1 e hx _ => ?_) fun p H1 hp e => ?_
    · obtain ⟨n, hn, rfl⟩ := nl_get' hx
      have hm := List.mem_of_getElem? hn
      have h1 := hp.pos n hm
      have h2 := mem_le_sum hm
      refine ev_is (v := .bl (decide ((1 : Int) ≤ (n : Int)) && decide ((n : Int) ≤ 10000))) (ev_call (ea_cons (ev_var rfl) (ea_cons ev_c (ea_cons ev_c ea_nil))) (spv_retV fun H1 e Q E k => ⟨_, _, _, rfl, k⟩)) ?_
      rw [decide_eq_true (by omega), decide_eq_true (by omega)]
      rfl
    · rw [given_all, nl_len] at hp
      have e1 : (List.range sz.length).map (fun _ => V.bl true) = (List.replicate sz.length true).map V.bl := by
        rw [List.map_const']
        simp
      rw [e1] at hp
      exact rc_all (sq_of hp)
  · refine ev_is (ev_op (ev_cb (ea_cons (ev_var rfl) ea_nil) (rc_sumN (ex_l e1 hs))) ev_c rv_I0) ?_
    rw [decide_eq_true (by omega)]
def sp_require_pieces (K : PySem.W.Frag) : Sp := fun vs H Q _ => ∃ (a : Addr) (sz : List Nat), vs = [.ref a] ∧ SqL K H a (nl sz) ∧ Pcs sz ∧ RetV .non H Q
theorem ok_require_pieces (T : Env K mg) : Callee P w K mg base CX0 3 "require_pieces" ["pieces"] [] (sp_require_pieces K) := by
  have C_is_pieces := ok_is_pieces (P := P) (w := w) (base := base) T
  refine callee_of T.g_require_pieces T.d_require_pieces sc_require_pieces (fun _ _ _ _ _ _ us hl => match us, hl with | [_], _ => rfl) (fun vs H Q E h => by first | (obtain ⟨rfl, _⟩ := h; rfl) | (obtain ⟨_, rfl, _⟩ := h; rfl) | (obtain ⟨_, _, rfl, _⟩ := h; rfl) | (obtain ⟨_, _, _, rfl, _⟩ := h; rfl) | (obtain ⟨_, _, _, _, rfl, _⟩ := h; rfl) | (obtain ⟨_, _, _, _, _, rfl, _⟩ := h; rfl) | (obtain ⟨_, _, _, _, _, _, rfl, _⟩ := h; rfl) | (obtain ⟨_, _, _, _, _, _, _, rfl, _⟩ := h; rfl) | (obtain ⟨_, _, _, _, _, _, _, _, rfl, _⟩ := h; rfl)) ?_
  intro cdv f A outer s H vs Q E hr h
  refine ⟨_, (pss_one (ps_if (pt_not (pt_val (Hw.pe_cc C_is_pieces (hr.mono (by decide)) (by rfl) pass0 (pa_cons (pv 0) pa_nil)))) (pss_one ps_never) pss_nil)), ?_⟩
  obtain ⟨a, sz, rfl, hs, hp, q⟩ := h
  refine s_when (b := !true) (et_not (et_B (ev_call (ea_cons (ev_var rfl) ea_nil) (spv_retV fun H1 e Q E k => ⟨_, _, rfl, ex_l e hs, hp, k⟩)))) (fun hb => absurd hb (by decide)) fun _ H1 e => q.go e
def sp_first_piece_of (K : PySem.W.Frag) : Sp := fun vs H Q _ => ∃ (a : Addr) (xs : List Nat), vs = [.ref a] ∧ SqL K H a (nl xs) ∧ xs.length ≤ 40000 ∧ RetV (.int (fpiece (at_ xs) xs.length : Nat)) H Q
theorem ok_first_piece_of (T : Env K mg) : Callee P w K mg base CX0 1 "first_piece_of" ["values"] [] (sp_first_piece_of K) := by
  refine callee_of T.g_first_piece_of T.d_first_piece_of sc_first_piece_of (fun _ _ _ _ _ _ us hl => match us, hl with | [_], _ => rfl) (fun vs H Q E h => by first | (obtain ⟨rfl, _⟩ := h; rfl) | (obtain ⟨_, rfl, _⟩ := h; rfl) | (obtain ⟨_, _, rfl, _⟩ := h; rfl) | (obtain ⟨_, _, _, rfl, _⟩ := h; rfl) | (obtain ⟨_, _, _, _, rfl, _⟩ := h; rfl) | (obtain ⟨_, _, _, _, _, rfl, _⟩ := h; rfl) | (obtain ⟨_, _, _, _, _, _, rfl, _⟩ := h; rfl) | (obtain ⟨_, _, _, _, _, _, _, rfl, _⟩ := h; rfl) | (obtain ⟨_, _, _, _, _, _, _, _, rfl, _⟩ := h; rfl)) ?_
  intro cdv f A outer s H vs Q E hr h
  refine ⟨_, (pss_cons (ps_setLc (i := 1) (own := [("position", 2), ("value", 3)]) (g := gTup K 2 (gCons (gName 2) (gCons (gName 3) gNil))) rfl sc_first_piece_of.nd rfl rfl (sw_true rfl rfl rfl (by decide +kernel)) (pi_enum (by rfl) T.n_enumerate (pa_cons (pv 0) pa_nil)) (blkOk_by (own := [("position", 2), ("value", 3)]) (N := ["values", "zeros", "position", "value"]) (sc := (defScope s_first_piece_of)) (by decide +kernel)) (fun _ _ _ _ _ => (pg_tup (by rfl) (pgs_cons (pg_name (i := 2) sc_first_piece_of.nd rfl (Or.inl rfl)) (pgs_cons (pg_name (i := 3) sc_first_piece_of.nd rfl (Or.inl rfl)) pgs_nil)))) (fun _ _ _ _ _ => pts_one (PW.pt (pw_and (pt_cmpR op_gt (pv 2) pe_int (nomark _)) (pw_and1 (pt_cmpR op_eq (pv 3) pe_int (nomark _)))))) (fun _ _ _ _ _ => (pv 2)))
      (pss_one (ps_ret (pe_ifExp (pt_cmpR (op_neD hr.units) (pv 1) (pe_lst pa_nil) (nomark _)) (pe_ix ix_list (pv 1) pe_int (fun _ _ => rfl)) (pe_callB call_len_seq (by rfl) T.n_len PySem.boot_len (pa_cons (pv 0) pa_nil)))))), ?_⟩
  obtain ⟨a, xs, rfl, hs, hl, q⟩ := h
  refine q_asgL (xs := nl (fpieces (at_ xs) xs.length)) ?_ fun p H1 hp e1 h1 => ?_
  · have := el_lcEn (K := K) (H := H) (σ := [some (V.ref a), none, none, none]) (t := tAnd (tTest (tOp (rI0 fun i j => .bl (decide (j < i))) (tVar 2) (tC (.int 0)))) (tTest (tOp rEq (tVar 3) (tC (.int 0))))) (te := tVar 2) (tl := tVar 0) (i := 2) (j := 3) (vs := [2, 3]) (xs := nl xs) (fun m => decide (0 < m) && decide (at_ xs m = 0)) (fun m => .int (m : Int)) (ev_var rfl) hs (by rw [nl_len]; omega) (fun _ _ => rfl) (fun m x H1 e hx => ?_) fun m x H1 e hx _ => ev_var rfl
    · rw [nl_len] at this
      exact this
    · obtain ⟨n, hn, rfl⟩ := nl_get' hx
      have hv : at_ xs m = n := by
        unfold at_
        rw [List.getD_eq_getElem?_getD, hn]
        rfl
      refine et_and (et_is (et_test (ev_op (ev_var rfl) ev_c rv_I0)) ?_) fun _ => et_is (et_test (ev_op (ev_var rfl) (ev_n 0) (rv_eq rfl))) ?_
      · rw [Bool.eq_iff_iff, decide_eq_true_iff, decide_eq_true_iff]
        omega
      · rw [dec_vint, hv]
  · have fl : (fpieces (at_ xs) xs.length).length ≤ xs.length := by
      have := List.length_filter_le (fun p => decide (0 < p) && decide (at_ xs p = 0)) (List.range xs.length)
      rw [List.length_range] at this
      exact this
    refine s_ret (v := .int (fpiece (at_ xs) xs.length : Nat)) (ev_if (b := !decide (fpieces (at_ xs) xs.length = [])) (et_test (ev_nilNe (ev_var rfl) (sq_of h1))) (fun hb => ?_) fun hb => ?_) fun H2 e2 => q H2 (e1.trans e2)
    · have hne : fpieces (at_ xs) xs.length ≠ [] := by simpa using hb
      refine ev_op (ev_var rfl) ev_c (rv_ixL (sq_of h1) (nl_at (i := 0) ?_))
      unfold fpiece
      cases e : fpieces (at_ xs) xs.length with
      | nil => exact absurd e hne
      | cons x t => rfl
    · have he : fpieces (at_ xs) xs.length = [] := by simpa using hb
      unfold fpiece
      rw [he]
      exact ev_cb (ea_cons (ev_var rfl) ea_nil) (rc_lenN (ex_l e1 hs))
def sp_first_obstacle_of (K : PySem.W.Frag) : Sp := fun vs H Q _ => ∃ (a : Addr) (xs : List Nat), vs = [.ref a] ∧ SqL K H a (nl xs) ∧ xs.length ≤ 40000 ∧ RetV (vO (obst (at_ xs) xs.length)) H Q
theorem ok_first_obstacle_of (T : Env K mg) : Callee P w K mg base CX0 2 "first_obstacle_of" ["values"] [] (sp_first_obstacle_of K) := by
  have C_border_lengths := ok_border_lengths (P := P) (w := w) (base := base) T
  have C_first_piece_of := ok_first_piece_of (P := P) (w := w) (base := base) T
  refine callee_of T.g_first_obstacle_of T.d_first_obstacle_of sc_first_obstacle_of (fun _ _ _ _ _ _ us hl => match us, hl with | [_], _ => rfl) (fun vs H Q E h => by first | (obtain ⟨rfl, _⟩ := h; rfl) | (obtain ⟨_, rfl, _⟩ := h; rfl) | (obtain ⟨_, _, rfl, _⟩ := h; rfl) | (obtain ⟨_, _, _, rfl, _⟩ := h; rfl) | (obtain ⟨_, _, _, _, rfl, _⟩ := h; rfl) | (obtain ⟨_, _, _, _, _, rfl, _⟩ := h; rfl) | (obtain ⟨_, _, _, _, _, _, rfl, _⟩ := h; rfl) | (obtain ⟨_, _, _, _, _, _, _, rfl, _⟩ := h; rfl) | (obtain ⟨_, _, _, _, _, _, _, _, rfl, _⟩ := h; rfl)) ?_
  intro cdv f A outer s H vs Q E hr h
  refine ⟨_, (pss_cons (ps_set (i := 1) sc_first_obstacle_of.nd rfl (Or.inl rfl) (Hw.pe_cc C_border_lengths (hr.mono (by decide)) (by rfl) pass0 (pa_cons (pv 0) pa_nil)))
      (pss_cons (ps_for PassesOwn.never rfl (pi_range2 (by rfl) T.n_range (pa_cons (pe_op op_add (Hw.pe_cc C_first_piece_of (hr.mono (by decide)) (by rfl) pass0 (pa_cons (pv 0) pa_nil)) pe_int) (pa_cons (pe_op op_add (pe_callB call_len_seq (by rfl) T.n_len PySem.boot_len (pa_cons (pv 0) pa_nil)) pe_int) pa_nil))) (pg_name (i := 2) sc_first_obstacle_of.nd rfl (Or.inl rfl))
      (pss_one (ps_if (pt_cmpR op_eq (pe_ix ix_list (pv 1) (pv 2) (fun _ _ => rfl)) pe_int (nomark _)) (pss_one (ps_ret (pv 2))) pss_nil)))
      (pss_one (ps_ret pe_non)))), ?_⟩
  obtain ⟨a, xs, rfl, hs, hl, q⟩ := h
  refine q_asgL (el_call (ea_cons (ev_var rfl) ea_nil) (spl_retL fun H1 e1 Q E k => ⟨_, _, rfl, ex_l e1 hs, hl, k⟩)) fun p H1 hp e1 h1 => ?_
  have hf := fpiece_le (at_ xs) xs.length
  obtain ⟨F, hF⟩ : ∃ F, F = fpiece (at_ xs) xs.length := ⟨_, rfl⟩
  refine q_forR2 (lo := ((F + 1 : Nat) : Int)) (n := ((xs.length + 1 : Nat) : Int)) (ea_cons (ev_op (ev_call (ea_cons (ev_var rfl) ea_nil) (spv_retV fun H2 e2 Q E k => ⟨_, _, rfl, ex_l (e1.trans e2) hs, hl, by rw [← hF]; exact k⟩)) (ev_n 1) rv_addN) (ea_cons (ev_op (ev_cb (ea_cons (ev_var rfl) ea_nil) (rc_lenN (ex_l e1 hs))) (ev_n 1) rv_addN) ea_nil)) (by omega)
    (fun i σ' H' => (∃ v, σ' = [some (.ref a), some (.ref p), v]) ∧ Ex H H' ∧ H' p = some (.lst (nl (lbs (at_ xs) (xs.length + 1)))) ∧ ∀ j, j < i → lb (at_ xs) (F + 1 + j) ≠ 0)
    (fun H2 e2 => ⟨⟨_, rfl⟩, e1.trans e2, e2 _ _ h1, fun j hj => absurd hj (Nat.not_lt_zero _)⟩) ?_ ?_
  · rintro i σ' H' hi ⟨⟨v, rfl⟩, e, hh, hb⟩
    have ee : ((F + 1 : Nat) : Int) + (i : Int) = ((F + 1 + i : Nat) : Int) := by omega
    rw [ee]
    refine s_when (b := decide (lb (at_ xs) (F + 1 + i) = 0)) (et_is (et_test (ev_op (ev_op (ev_var rfl) (ev_var rfl) (rv_ixL (sq_of hh) (nl_at (lbs_at (by omega))))) (ev_n 0) (rv_eq rfl))) (by rw [dec_vint])) (fun hb2 H2 e2 => ?_) fun hb2 H2 e2 => ?_
    · have hz := of_decide_eq_true hb2
      refine s_ret (v := .int ((F + 1 + i : Nat) : Int)) (ev_var rfl) fun H3 e3 => ?_
      have ho : obst (at_ xs) xs.length = some (F + 1 + i) := by
        rw [hF]
        refine obst_some (by omega) (by rw [← hF]; exact hz) fun j hj => by rw [← hF]; exact hb j hj
      have := q H3 ((e.trans e2).trans e3)
      rw [ho] at this
      exact this
    · refine ⟨⟨_, rfl⟩, e.trans e2, e2 _ _ hh, fun j hj => ?_⟩
      by_cases z : j = i
      · rw [z]
        exact of_decide_eq_false hb2
      · exact hb j (by omega)
  · rintro σ' H' ⟨⟨v, rfl⟩, e, hh, hb⟩
    refine s_ret (v := .non) ev_c fun H3 e3 => ?_
    have ho : obst (at_ xs) xs.length = none := obst_is_none fun j hj => by rw [← hF] at hj ⊢; exact hb j (by omega)
    have := q H3 (e.trans e3)
    rw [ho] at this
    exact this
def sp_descent_of (K : PySem.W.Frag) : Sp := fun vs H Q _ => ∃ (a : Addr) (xs : List Nat), vs = [.ref a] ∧ SqL K H a (nl xs) ∧ xs.length ≤ 40000 ∧ RetL (nl (desc (at_ xs) xs.length)) H Q
theorem ok_descent_of (T : Env K mg) : Callee P w K mg base CX0 2 "descent_of" ["values"] [] (sp_descent_of K) := by
  have C_border_lengths := ok_border_lengths (P := P) (w := w) (base := base) T
  refine callee_of T.g_descent_of T.d_descent_of sc_descent_of (fun _ _ _ _ _ _ us hl => match us, hl with | [_], _ => rfl) (fun vs H Q E h => by first | (obtain ⟨rfl, _⟩ := h; rfl) | (obtain ⟨_, rfl, _⟩ := h; rfl) | (obtain ⟨_, _, rfl, _⟩ := h; rfl) | (obtain ⟨_, _, _, rfl, _⟩ := h; rfl) | (obtain ⟨_, _, _, _, rfl, _⟩ := h; rfl) | (obtain ⟨_, _, _, _, _, rfl, _⟩ := h; rfl) | (obtain ⟨_, _, _, _, _, _, rfl, _⟩ := h; rfl) | (obtain ⟨_, _, _, _, _, _, _, rfl, _⟩ := h; rfl) | (obtain ⟨_, _, _, _, _, _, _, _, rfl, _⟩ := h; rfl)) ?_
  intro cdv f A outer s H vs Q E hr h
  refine ⟨_, (pss_cons (ps_set (i := 1) sc_descent_of.nd rfl (Or.inl rfl) (Hw.pe_cc C_border_lengths (hr.mono (by decide)) (by rfl) pass0 (pa_cons (pv 0) pa_nil)))
      (pss_cons (ps_set (i := 2) sc_descent_of.nd rfl (Or.inl rfl) (pe_callB call_len_seq (by rfl) T.n_len PySem.boot_len (pa_cons (pv 0) pa_nil)))
      (pss_cons (ps_set (i := 3) sc_descent_of.nd rfl (Or.inl rfl) (pe_lst pa_nil))
      (pss_cons (ps_while PassesOwn.never (pt_cmpR op_gt (pe_ix ix_list (pv 1) (pv 2) (fun _ _ => rfl)) pe_int (nomark _))
      (pss_cons (ps_aug (i := 2) sc_descent_of.nd rfl (Or.inl rfl) (pe_ix ix_list (pv 1) (pv 2) (fun _ _ => rfl)) ip_sub)
      (pss_one (ps_expr (pe_bm PySem.F.plainAttrs_list PySem.F.slot_list_append PySem.F.type_list_append mt_append (pv 3) (pa_cons (pv 2) pa_nil))))))
      (pss_one (ps_ret (pv 3))))))), ?_⟩
  obtain ⟨a, xs, rfl, hs, hl, q⟩ := h
  refine q_asgL (el_call (ea_cons (ev_var rfl) ea_nil) (spl_retL fun H1 e1 Q E k => ⟨_, _, rfl, ex_l e1 hs, hl, k⟩)) fun p H1 hp e1 h1 => ?_
  refine q_asg (v := .int (xs.length : Nat)) (ev_cb (ea_cons (ev_var rfl) ea_nil) (rc_lenN (ex_l e1 hs))) fun H2 e2 => ?_
  refine q_asgL (el_lst ea_nil (by decide)) fun l H3 hl3 e3 h3 => ?_
  have hfl : H l = none := fresh_back (e1.trans e2) hl3
  refine q_while (fun m σ' H' => ∃ F : List Nat, m ≤ xs.length ∧ desc (at_ xs) xs.length = F ++ desc (at_ xs) m ∧ σ' = [some (.ref a), some (.ref p), some (.int (m : Int)), some (.ref l)] ∧ Ex H H' ∧ H' p = some (.lst (nl (lbs (at_ xs) (xs.length + 1)))) ∧ H' l = some (.lst (nl F)))
    xs.length ⟨[], Nat.le_refl _, rfl, rfl, (e1.trans e2).trans e3, e3 _ _ (e2 _ _ h1), h3⟩ ?_
  rintro m σ' H' ⟨F, hm, hF, rfl, e, hh, hf⟩
  have ne : p ≠ l := ne_of_none (e2 _ _ h1) hl3
  have hb : ∀ H4, Ex H' H4 → RV (rIxL K) (.ref p) (.int (m : Int)) H4 (.int (lb (at_ xs) m : Nat)) := fun H4 e4 => rv_ixL (sq_of (e4 _ _ hh)) (nl_at (lbs_at (by omega)))
  refine ⟨decide (0 < lb (at_ xs) m), et_is (et_test (ev_op (ev_op (ev_var rfl) (ev_var rfl) (hb _ (Ex.refl _))) ev_c rv_I0)) (by rw [Bool.eq_iff_iff, decide_eq_true_iff, decide_eq_true_iff]; omega), fun hb2 H4 e4 => ?_, fun hb2 H4 e4 => ?_⟩
  · have h0 := of_decide_eq_true hb2
    have hlt := lb_lt' h0
    have hlp : lp (at_ xs) m = m - lb (at_ xs) m := rfl
    have hd := desc_yes h0
    have hle := desc_len (f := at_ xs) xs.length
    have hFl : F.length ≤ xs.length := by
      rw [hF, List.length_append] at hle
      omega
    refine ⟨fun σ2 H5 => σ2 = [some (.ref a), some (.ref p), some (.int (lp (at_ xs) m : Nat)), some (.ref l)] ∧ Ex H H5 ∧ H5 p = some (.lst (nl (lbs (at_ xs) (xs.length + 1)))) ∧ H5 l = some (.lst (nl (F ++ [lp (at_ xs) m]))), fun σ2 H5 ⟨g1, g2, g3, g4⟩ => ⟨lp (at_ xs) m, by omega, F ++ [lp (at_ xs) m], by omega, by rw [hF, hd]; simp, g1, g2, g3, g4⟩, ?_⟩
    refine q_aug (a := (m : Int)) (b := (lb (at_ xs) m : Nat)) rfl (ev_op (ev_var rfl) (ev_var rfl) (hb _ e4)) fun H5 e5 => ?_
    rw [show ((m : Int) - ((lb (at_ xs) m : Nat) : Int)) = ((lp (at_ xs) m : Nat) : Int) by omega]
    refine s_app (v := .int (lp (at_ xs) m : Nat)) (xs := nl F) (e5 _ _ (e4 _ _ hf)) (ev_var rfl) (ev_var rfl) (by rw [nl_len]; omega) fun H6 e6 => ?_
    refine ⟨rfl, (((e.trans e4).trans e5).trans e6).mut hfl, ?_, ?_⟩
    · rw [upd_ne ne]
      exact e6 _ _ (e5 _ _ (e4 _ _ hh))
    · rw [upd_same, nl_append]
      rfl
  · have h0 := of_decide_eq_false hb2
    have hd := desc_no (f := at_ xs) (N := m) (by omega)
    rw [hd, List.append_nil] at hF
    refine s_ret (ev_var rfl) fun H5 e5 => q l H5 hfl ((e.trans e4).trans e5) ?_
    rw [hF]
    exact e5 _ _ (e4 _ _ hf)
def sp_first_obstacle (K : PySem.W.Frag) : Sp := fun vs H Q _ => ∃ (a : Addr) (sz : List Nat), vs = [.ref a] ∧ SqL K H a (nl sz) ∧ Pcs sz ∧ RetV (vO (obst (colF sz) sz.sum)) H Q
theorem at_colsL (sz : List Nat) : at_ (colsL sz) = colF sz := rfl
theorem ok_first_obstacle (T : Env K mg) : Callee P w K mg base CX0 4 "first_obstacle" ["pieces"] [] (sp_first_obstacle K) := by
  have C_columns_of := ok_columns_of (P := P) (w := w) (base := base) T
  have C_first_obstacle_of := ok_first_obstacle_of (P := P) (w := w) (base := base) T
  have C_require_pieces := ok_require_pieces (P := P) (w := w) (base := base) T
  refine callee_of T.g_first_obstacle T.d_first_obstacle sc_first_obstacle (fun _ _ _ _ _ _ us hl => match us, hl with | [_], _ => rfl) (fun vs H Q E h => by first | (obtain ⟨rfl, _⟩ := h; rfl) | (obtain ⟨_, rfl, _⟩ := h; rfl) | (obtain ⟨_, _, rfl, _⟩ := h; rfl) | (obtain ⟨_, _, _, rfl, _⟩ := h; rfl) | (obtain ⟨_, _, _, _, rfl, _⟩ := h; rfl) | (obtain ⟨_, _, _, _, _, rfl, _⟩ := h; rfl) | (obtain ⟨_, _, _, _, _, _, rfl, _⟩ := h; rfl) | (obtain ⟨_, _, _, _, _, _, _, rfl, _⟩ := h; rfl) | (obtain ⟨_, _, _, _, _, _, _, _, rfl, _⟩ := h; rfl)) ?_
  intro cdv f A outer s H vs Q E hr h
  refine ⟨_, (pss_cons (ps_expr (Hw.pe_cc C_require_pieces (hr.mono (by decide)) (by rfl) pass0 (pa_cons (pv 0) pa_nil)))
      (pss_one (ps_ret (Hw.pe_cc C_first_obstacle_of (hr.mono (by decide)) (by rfl) pass0 (pa_cons (Hw.pe_cc C_columns_of (hr.mono (by decide)) (by rfl) pass0 (pa_cons (pv 0) pa_nil)) pa_nil))))), ?_⟩
  obtain ⟨a, sz, rfl, hs, hp, q⟩ := h
  have hsum := hp.sum
  refine q_drop (ev_call (ea_cons (ev_var rfl) ea_nil) (spv_retV fun H1 e1 Q E k => ⟨_, _, rfl, ex_l e1 hs, hp, k⟩)) fun H1 e1 => ?_
  exact s_ret (ev_callL (vs := []) (el_call (ea_cons (ev_var rfl) ea_nil) (spl_retL fun H2 e2 Q E k => ⟨_, _, rfl, ex_l (e1.trans e2) hs, by omega, k⟩)) (fun H2 e2 => ea_nil) fun p H2 hp e2 => spv_retV fun H3 e3 Q E k => ⟨_, _, rfl, ex_l e3 (sq_of hp), by rw [colsL_len]; omega, by rw [colsL_len]; exact k⟩) fun H3 e3 => q H3 (e1.trans e3)
def sp_do_agree (K : PySem.W.Frag) : Sp := fun vs H Q _ => ∃ (a b : Addr) (xs ys : List Nat), vs = [.ref a, .ref b] ∧ SqL K H a (nl xs) ∧ SqL K H b (nl ys) ∧ xs.length ≤ 40000 ∧ ys.length ≤ 40000 ∧ RetV (.bl (decide (xs.take (min xs.length ys.length) = ys.take (min xs.length ys.length)))) H Q
theorem min_int (x y : Nat) : (if (y : Int) < (x : Int) then (y : Int) else (x : Int)) = ((min x y : Nat) : Int) := by
  split <;> omega
theorem ok_do_agree (T : Env K mg) : Callee P w K mg base CX0 1 "do_agree" ["one", "other"] [] (sp_do_agree K) := by
  refine callee_of T.g_do_agree T.d_do_agree sc_do_agree (fun _ _ _ _ _ _ us hl => match us, hl with | [_, _], _ => rfl) (fun vs H Q E h => by first | (obtain ⟨rfl, _⟩ := h; rfl) | (obtain ⟨_, rfl, _⟩ := h; rfl) | (obtain ⟨_, _, rfl, _⟩ := h; rfl) | (obtain ⟨_, _, _, rfl, _⟩ := h; rfl) | (obtain ⟨_, _, _, _, rfl, _⟩ := h; rfl) | (obtain ⟨_, _, _, _, _, rfl, _⟩ := h; rfl) | (obtain ⟨_, _, _, _, _, _, rfl, _⟩ := h; rfl) | (obtain ⟨_, _, _, _, _, _, _, rfl, _⟩ := h; rfl) | (obtain ⟨_, _, _, _, _, _, _, _, rfl, _⟩ := h; rfl)) ?_
  intro cdv f A outer s H vs Q E hr h
  refine ⟨_, (pss_cons (ps_set (i := 2) sc_do_agree.nd rfl (Or.inl rfl) (pe_callB (call_min2 (by rfl)) (by rfl) T.n_min (by decide +kernel) (pa_cons (pe_callB call_len_seq (by rfl) T.n_len PySem.boot_len (pa_cons (pv 0) pa_nil)) (pa_cons (pe_callB call_len_seq (by rfl) T.n_len PySem.boot_len (pa_cons (pv 1) pa_nil)) pa_nil))))
      (pss_one (ps_ret (pe_cmpR (op_eqD hr.units) (pe_slice sl_list (pv 0) po_none (po_some (pv 2))) (pe_slice sl_list (pv 1) po_none (po_some (pv 2))) (nomark _))))), ?_⟩
  obtain ⟨a, b, xs, ys, rfl, hs, ht, hl1, hl2, q⟩ := h
  refine q_asg (v := .int ((min xs.length ys.length : Nat) : Int)) (ev_is (ev_cb (ea_cons (ev_cb (ea_cons (ev_var rfl) ea_nil) (rc_lenN hs)) (ea_cons (ev_cb (ea_cons (ev_var rfl) ea_nil) (rc_lenN ht)) ea_nil)) rc_min2) (by rw [min_int])) fun H1 e1 => ?_
  refine s_ret (v := .bl (decide (xs.take (min xs.length ys.length) = ys.take (min xs.length ys.length)))) ?_ fun H2 e2 => q H2 (e1.trans e2)
  refine ev_is (ev_opLL (el_sl (ev_var rfl) eo_none (eo_some (ev_var rfl)) (ex_l e1 hs)) (el_sl (ev_var rfl) eo_none (eo_some (ev_var rfl)) (ex_l e1 ht)) fun pa pb Hx ha hb _ => by
    rw [cutV_0n, nl_take] at ha
    rw [cutV_0n, nl_take] at hb
    exact rv_eqD (dp_nl (sq_of ha)) (dp_nl (sq_of hb)) (shaped_dN _) (shaped_dN _)) ?_
  rw [eqv_dN]
end

section
variable {P : Program} {w : World} {K : PySem.W.Frag} {mg : Str → Option Value} {base : Heap}
theorem ok_NotWrapped___init__ (T : Env K mg) : ∃ fd, FnOk P w K mg base CX0 1 (He.ma K (He.ga K "NotWrapped") "__init__") fd ["self", "position"] (spInit (He.ga K "NotWrapped") ["position"]) ∧ Binds K fd ["self", "position"] [] := by
  obtain ⟨fd, F⟩ := T.d_NotWrapped___init__
  refine ⟨fd, F.ok sc_NotWrapped___init__ (fun vs H Q E h => ?_) (fun cdv A outer s H vs Q E hr h => ?_), F.bindsN (fun _ _ _ _ _ _ us hl => match us, hl with | [_, _], _ => rfl)⟩
  · obtain ⟨a, args, rfl, hl, _⟩ := h
    rw [List.length_cons, hl]
    rfl
  · obtain ⟨a, args, rfl, hl, ha, q⟩ := h
    obtain ⟨x0, rfl⟩ : ∃ x0, args = [x0] := match args, hl with | [_], _ => ⟨_, rfl⟩
    refine ⟨_, (pss_one (ps_ost (pv 0) (pv 1))), ?_⟩
    refine ⟨_, rfl, _, rfl, a, He.ga K "NotWrapped", rfl, T.o_NotWrapped.1, T.a_NotWrapped_position, .inl ⟨ha, fun d hd hda => ?_⟩⟩
    refine q d _ hd hda upd_same (by rw [upd_ne hda]; exact upd_same) fun x o hx ho => ?_
    rw [upd_ne hx, upd_ne (ne_of_none ho hd)]
    exact ho
theorem ok_Conflict___init__ (T : Env K mg) : ∃ fd, FnOk P w K mg base CX0 1 (He.ma K (He.ga K "Conflict") "__init__") fd ["self", "first", "second"] (spInit (He.ga K "Conflict") ["first", "second"]) ∧ Binds K fd ["self", "first", "second"] [] := by
  obtain ⟨fd, F⟩ := T.d_Conflict___init__
  refine ⟨fd, F.ok sc_Conflict___init__ (fun vs H Q E h => ?_) (fun cdv A outer s H vs Q E hr h => ?_), F.bindsN (fun _ _ _ _ _ _ us hl => match us, hl with | [_, _, _], _ => rfl)⟩
  · obtain ⟨a, args, rfl, hl, _⟩ := h
    rw [List.length_cons, hl]
    rfl
  · obtain ⟨a, args, rfl, hl, ha, q⟩ := h
    obtain ⟨x0, x1, rfl⟩ : ∃ x0 x1, args = [x0, x1] := match args, hl with | [_, _], _ => ⟨_, _, rfl⟩
    refine ⟨_, (pss_cons (ps_ost (pv 0) (pv 1)) (pss_one (ps_ost (pv 0) (pv 2)))), ?_⟩
    refine ⟨_, rfl, _, rfl, a, He.ga K "Conflict", rfl, T.o_Conflict.1, T.a_Conflict_first, .inl ⟨ha, fun d hd hda => ?_⟩⟩
    refine ⟨_, rfl, _, rfl, a, He.ga K "Conflict", rfl, T.o_Conflict.1, T.a_Conflict_second, .inr ⟨d, _, upd_same, by rw [upd_ne hda]; exact upd_same, Nat.le_of_ble_eq_true rfl, ?_⟩⟩
    refine q d _ hd hda (by rw [upd_ne (Ne.symm hda)]; exact upd_same) upd_same fun x o hx ho => ?_
    rw [upd_ne (ne_of_none ho hd), upd_ne hx, upd_ne (ne_of_none ho hd)]
    exact ho
end

/-! ### module reading, what may raise -/
section
variable {P : Program} {w : World} {K : PySem.W.Frag} {mg : Str → Option Value} {base : Heap}
theorem s_retS {sp : Sp} {E : L2.St → XK} {ta : TA} {vs : List V} {D : Ends} {σ : L2.St} {H : Hp} (h : EvA ta σ H vs) (q : ∀ H1, Ex H H1 → sp vs H1 D.rt (E σ)) : tRet (tCallS sp E ta) D σ H := h H (Ex.refl H) _ q
/-- raised with its field: an error of NotWrapped that bears n -/
def OutNW (K : PySem.W.Frag) (n : Nat) (H : Hp) (E : XK) : Prop := ∀ (d : Addr) (H' : Hp), H d = none → Ex H H' → H' d = some (.xd [("position", .int (n : Int))]) → E (.ref (He.ga K "NotWrapped")) (some d) H'
theorem OutNW.go {n : Nat} {H H1 : Hp} {E : XK} (q : OutNW K n H E) (e : Ex H H1) : OutNW K n H1 E := fun d H' h1 h2 h3 => q d H' (fresh_back e h1) (e.trans h2) h3
theorem RetL.step {xs : List V} {H H1 : Hp} {Q : VK} (k : RetL xs H Q) (e : Ex H H1) : RetL xs H1 Q := fun p H2 hp e2 h => k p H2 (fresh_back e hp) (e.trans e2) h
theorem RetV.step {v : V} {H H1 : Hp} {Q : VK} (k : RetV v H Q) (e : Ex H H1) : RetV v H1 Q := fun H2 e2 => k H2 (e.trans e2)
/-- a shortest list for a line, or its first obstacle -/
def ShortOr (K : PySem.W.Frag) (sz : List Nat) (H : Hp) (Q : VK) (E : XK) : Prop := (obst (colF sz) sz.sum = none → RetL (nl (desc (colF sz) sz.sum)) H Q) ∧ ∀ n, obst (colF sz) sz.sum = some n → OutNW K n H E
theorem ShortOr.go {sz : List Nat} {H H1 : Hp} {Q : VK} {E : XK} (q : ShortOr K sz H Q E) (e : Ex H H1) : ShortOr K sz H1 Q E := ⟨fun h => RetL.step (q.1 h) e, fun n h => (q.2 n h).go e⟩
def sp_shortest_widths (K : PySem.W.Frag) : Sp := fun vs H Q E => ∃ (a : Addr) (sz : List Nat), vs = [.ref a] ∧ SqL K H a (nl sz) ∧ Pcs sz ∧ ShortOr K sz H Q E
theorem ok_shortest_widths (T : Env K mg) : Callee P w K mg base (L2.CX P w) 4 "shortest_widths" ["pieces"] [] (sp_shortest_widths K) := by
  have C_columns_of := ok_columns_of (P := P) (w := w) (base := base) T
  have C_descent_of := ok_descent_of (P := P) (w := w) (base := base) T
  have C_first_obstacle_of := ok_first_obstacle_of (P := P) (w := w) (base := base) T
  have C_require_pieces := ok_require_pieces (P := P) (w := w) (base := base) T
  obtain ⟨fI_NotWrapped, I_NotWrapped⟩ := ok_NotWrapped___init__ (P := P) (w := w) (base := base) T
  refine callee_ofX T.g_shortest_widths T.d_shortest_widths sc_shortest_widths (fun _ _ _ _ _ _ us hl => match us, hl with | [_], _ => rfl) (fun vs H Q E h => by first | (obtain ⟨rfl, _⟩ := h; rfl) | (obtain ⟨_, rfl, _⟩ := h; rfl) | (obtain ⟨_, _, rfl, _⟩ := h; rfl) | (obtain ⟨_, _, _, rfl, _⟩ := h; rfl) | (obtain ⟨_, _, _, _, rfl, _⟩ := h; rfl) | (obtain ⟨_, _, _, _, _, rfl, _⟩ := h; rfl) | (obtain ⟨_, _, _, _, _, _, rfl, _⟩ := h; rfl) | (obtain ⟨_, _, _, _, _, _, _, rfl, _⟩ := h; rfl) | (obtain ⟨_, _, _, _, _, _, _, _, rfl, _⟩ := h; rfl)) ?_
  intro cdv f A outer s H vs Q E hr h
  refine ⟨_, (pss_cons (ps_expr (Hw.pe_cc C_require_pieces (hr.mono (by decide)) (by rfl) pass0 (pa_cons (pv 0) pa_nil)))
      (pss_cons (ps_set (i := 1) sc_shortest_widths.nd rfl (Or.inl rfl) (Hw.pe_cc C_columns_of (hr.mono (by decide)) (by rfl) pass0 (pa_cons (pv 0) pa_nil)))
      (pss_cons (ps_set (i := 2) sc_shortest_widths.nd rfl (Or.inl rfl) (Hw.pe_cc C_first_obstacle_of (hr.mono (by decide)) (by rfl) pass0 (pa_cons (pv 1) pa_nil)))
      (pss_cons (ps_if (pt_cmpR op_notN (pv 2) pe_non (nomark _)) (pss_one (ps_raise rfl (takes_of rfl rfl rfl rfl) (pmk_oex T.o_NotWrapped.1 T.m_NotWrapped___init__.at_ (Hw.fn_type T.m_NotWrapped___init__.fn) I_NotWrapped.1 (hr.mono (by decide)) I_NotWrapped.2 .nil pass0 (by rfl) T.g_NotWrapped (pa_cons (pv 2) pa_nil)))) pss_nil)
      (pss_one (ps_ret (Hw.pe_cc C_descent_of (hr.mono (by decide)) (by rfl) pass0 (pa_cons (pv 1) pa_nil)))))))), ?_⟩
  obtain ⟨a, sz, rfl, hs, hp, q⟩ := h
  have hsum := hp.sum
  refine q_drop (ev_call (ea_cons (ev_var rfl) ea_nil) (spv_retV fun H1 e1 Q E k => ⟨_, _, rfl, ex_l e1 hs, hp, k⟩)) fun H1 e1 => ?_
  refine q_asgL (el_call (ea_cons (ev_var rfl) ea_nil) (spl_retL fun H2 e2 Q E k => ⟨_, _, rfl, ex_l (e1.trans e2) hs, by omega, k⟩)) fun p H2 hp2 e2 h2 => ?_
  have hl2 : (colsL sz).length = sz.sum := colsL_len sz
  refine q_asg (v := vO (obst (colF sz) sz.sum)) (ev_call (ea_cons (ev_var rfl) ea_nil) (spv_retV fun H3 e3 Q E k => ⟨_, _, rfl, ex_l e3 (sq_of h2), by omega, by rw [hl2]; exact k⟩)) fun H3 e3 => ?_
  refine q_when (b := !(obst (colF sz) sz.sum).isNone) (et_is (et_test (ev_op (ev_var rfl) ev_c rv_notN)) (by rw [vO_non])) (fun hb H4 e4 => ?_) fun hb H4 e4 => ?_
  · cases ho : obst (colF sz) sz.sum with
    | none => rw [ho] at hb; cases hb
    | some n =>
      refine mk_fields (args := [.int (n : Int)]) (ea_cons (ev_var rfl) ea_nil) rfl (Nat.le_of_ble_eq_true rfl) fun d H' hd e h => ?_
      have e14 := ((e1.trans e2).trans e3).trans e4
      exact q.2 n ho d H' (fresh_back e14 hd) (e14.trans e) h
  · have ho : obst (colF sz) sz.sum = none := by
      cases h : obst (colF sz) sz.sum with
      | none => rfl
      | some n => rw [h] at hb; cases hb
    have e14 := ((e1.trans e2).trans e3).trans e4
    exact s_retL (el_call (ea_cons (ev_var rfl) ea_nil) (spl_retL fun H5 e5 Q E k => ⟨_, _, rfl, ex_l ((e3.trans e4).trans e5) (sq_of h2), by omega, by rw [hl2]; exact k⟩)) fun p5 H5 hp5 e5 h5 => q.1 ho p5 H5 (fresh_back e14 hp5) (e14.trans e5) h5
/-- raised: Conflict of i and j -/
def OutCf (K : PySem.W.Frag) (i j : Nat) (H : Hp) (E : XK) : Prop := ∀ (d : Addr) (H' : Hp), H d = none → Ex H H' → H' d = some (.xd [("second", .int (j : Int)), ("first", .int (i : Int))]) → E (.ref (He.ga K "Conflict")) (some d) H'
def LinesOr (K : PySem.W.Frag) (lss : List (List Nat)) (H : Hp) (Q : VK) (E : XK) : Prop := (clash lss = none → ShortOr K (lng lss) H Q E) ∧ ∀ i j, clash lss = some (i, j) → OutCf K i j H E
theorem LinesOr.go {lss : List (List Nat)} {H H1 : Hp} {Q : VK} {E : XK} (q : LinesOr K lss H Q E) (e : Ex H H1) : LinesOr K lss H1 Q E := ⟨fun h => (q.1 h).go e, fun i j h d H' h1 h2 h3 => q.2 i j h d H' (fresh_back e h1) (e.trans h2) h3⟩
def sp_shortest_for_lines (K : PySem.W.Frag) : Sp := fun vs H Q E => ∃ (p : Addr) (as : List Addr) (lss : List (List Nat)), vs = [.ref p] ∧ Grp H p as lss ∧ lss ≠ [] ∧ lss.length ≤ 40 ∧ (∀ l ∈ lss, Pcs l) ∧ LinesOr K lss H Q E
theorem mxs_max {lss : List (List Nat)} (hn : lss ≠ []) : ∀ k ∈ lss.map List.sum, (∀ y ∈ lss.map List.sum, y ≤ k) → k = mxs lss := fun k hk hu => mxs_uniq hn hk hu
/-- [sum(line) for line in lines] -/
theorem el_sums {H : Hp} {σ : L2.St} {tl : TE} {p : Addr} {as : List Addr} {lss : List (List Nat)} {j : Nat} {vs : List Nat} (g : Grp H p as lss) (hz : lss.length ≤ 1000) (h : Ev tl σ H (.ref p)) (hw : ∀ x, wipe ((wipe σ vs).set j (some x)) vs = wipe σ vs) (hj : ∀ x, ((wipe σ vs).set j x)[j]? = some x) :
    EvL (tLc (iList K tl) (gName j) tYes (tCB (rSum K) (tCons (tVar j) tNil)) vs) σ H (nl (lss.map List.sum)) := by
  have := el_lcL (K := K) (te := tCB (rSum K) (tCons (tVar j) tNil)) (t := tYes) (fun _ => true) (fun i => .int ((lss.getD i []).sum : Nat)) h (sq_of g.top) (by rw [List.length_map, g.len]; omega) hw (fun i x H1 e hx => et_yes) fun i x H1 e hx _ => by
    obtain ⟨a, l, rfl, ha, hl, hh⟩ := g.addr' hx
    rw [List.getD_eq_getElem?_getD, hl]
    exact ev_cb (ea_cons (ev_var (hj _)) ea_nil) (rc_sumN (sq_of (e _ _ hh)))
  rw [given_all, List.length_map, g.len] at this
  have e2 : (List.range lss.length).map (fun i => V.int ((lss.getD i []).sum : Nat)) = nl (lss.map List.sum) := by
    unfold nl
    rw [List.map_map]
    apply List.ext_getElem?
    intro i
    simp only [List.getElem?_map]
    by_cases c : i < lss.length
    · rw [List.getElem?_range c, List.getElem?_eq_getElem c]
      simp [List.getD, c]
    · simp [c]
  rw [e2] at this
  exact this
theorem given_lng {lss : List (List Nat)} {as : List Addr} {a0 : V} : (given lss.length (fun i => decide ((lss.getD i []).sum = mxs lss)) (fun i => (as.map V.ref).getD i a0)) = (lngs lss).map fun i => (as.map V.ref).getD i a0 := rfl
theorem ok_shortest_for_lines (T : Env K mg) : Callee P w K mg base (L2.CX P w) 5 "shortest_for_lines" ["lines"] [] (sp_shortest_for_lines K) := by
  have C_columns_of := ok_columns_of (P := P) (w := w) (base := base) T
  have C_do_agree := ok_do_agree (P := P) (w := w) (base := base) T
  have C_require_pieces := ok_require_pieces (P := P) (w := w) (base := base) T
  have C_shortest_widths := ok_shortest_widths (P := P) (w := w) (base := base) T
  obtain ⟨fI_Conflict, I_Conflict⟩ := ok_Conflict___init__ (P := P) (w := w) (base := base) T
  refine callee_ofX T.g_shortest_for_lines T.d_shortest_for_lines sc_shortest_for_lines (fun _ _ _ _ _ _ us hl => match us, hl with | [_], _ => rfl) (fun vs H Q E h => by first | (obtain ⟨rfl, _⟩ := h; rfl) | (obtain ⟨_, rfl, _⟩ := h; rfl) | (obtain ⟨_, _, rfl, _⟩ := h; rfl) | (obtain ⟨_, _, _, rfl, _⟩ := h; rfl) | (obtain ⟨_, _, _, _, rfl, _⟩ := h; rfl) | (obtain ⟨_, _, _, _, _, rfl, _⟩ := h; rfl) | (obtain ⟨_, _, _, _, _, _, rfl, _⟩ := h; rfl) | (obtain ⟨_, _, _, _, _, _, _, rfl, _⟩ := h; rfl) | (obtain ⟨_, _, _, _, _, _, _, _, rfl, _⟩ := h; rfl)) ?_
  intro cdv f A outer s H vs Q E hr h
  refine ⟨_, (pss_cons (ps_if (PW.pt (pw_or (pt_not (pt_val (pe_callB call_isi (by rfl) T.n_isinstance (by decide +kernel) (pa_cons (pv 0) (pa_cons (pe_bltn (v := .ty "list") (by rfl) T.n_list (by decide +kernel) rfl) pa_nil))))) (pw_or1 (pt_not (pt_chain op_le op_le pe_int (pe_callB call_len_seq (by rfl) T.n_len PySem.boot_len (pa_cons (pv 0) pa_nil)) (pe_glob (v := .int 40) (by rfl) T.c_MAX_LINES.choose_spec ⟨_, rfl⟩)))))) (pss_one ps_never) pss_nil)
      (pss_cons (ps_for (passes_of rfl) rfl (pi_list (pv 0)) (pg_name (i := 1) sc_shortest_for_lines.nd rfl (Or.inl rfl))
      (pss_one (ps_expr (Hw.pe_cc C_require_pieces (hr.mono (by decide)) (by rfl) pass0 (pa_cons (pv 1) pa_nil)))))
      (pss_cons (ps_setLc (i := 2) (own := [("line", 1)]) (g := gName 1) rfl sc_shortest_for_lines.nd rfl rfl (sw_true rfl rfl rfl (by decide +kernel)) (pi_list (pv 0)) (blkOk_by (own := [("line", 1)]) (N := ["lines", "line", "found", "first", "one", "second", "longest"]) (sc := (defScope s_shortest_for_lines)) (by decide +kernel)) (fun _ _ _ _ _ => (pg_name (i := 1) sc_shortest_for_lines.nd rfl (Or.inl rfl))) (fun _ _ _ _ _ => pts_nil) (fun _ _ _ _ _ => (Hw.pe_cc C_columns_of (hr.mono (by decide)) (by rfl) pass0 (pa_cons (pv 1) pa_nil))))
      (pss_cons (ps_for (passes_of rfl) rfl (pi_enum (by rfl) T.n_enumerate (pa_cons (pv 2) pa_nil)) (pg_tup (by rfl) (pgs_cons (pg_name (i := 3) sc_shortest_for_lines.nd rfl (Or.inl rfl)) (pgs_cons (pg_name (i := 4) sc_shortest_for_lines.nd rfl (Or.inl rfl)) pgs_nil)))
      (pss_one (ps_for (passes_of rfl) rfl (pi_range2 (by rfl) T.n_range (pa_cons (pe_op op_add (pv 3) pe_int) (pa_cons (pe_callB call_len_seq (by rfl) T.n_len PySem.boot_len (pa_cons (pv 2) pa_nil)) pa_nil))) (pg_name (i := 5) sc_shortest_for_lines.nd rfl (Or.inl rfl))
      (pss_one (ps_if (pt_not (pt_val (Hw.pe_cc C_do_agree (hr.mono (by decide)) (by rfl) pass0 (pa_cons (pv 4) (pa_cons (pe_ix ix_list (pv 2) (pv 5) (fun _ _ => rfl)) pa_nil))))) (pss_one (ps_raise rfl (takes_of rfl rfl rfl rfl) (pmk_oex T.o_Conflict.1 T.m_Conflict___init__.at_ (Hw.fn_type T.m_Conflict___init__.fn) I_Conflict.1 (hr.mono (by decide)) I_Conflict.2 .nil pass0 (by rfl) T.g_Conflict (pa_cons (pv 3) (pa_cons (pv 5) pa_nil))))) pss_nil)))))
      (pss_cons (ps_set (i := 6) sc_shortest_for_lines.nd rfl (Or.inr rfl) (pe_callB (cr_max (by rfl)) (by rfl) T.n_max (by decide +kernel) (pa_cons (pe_lc (own := [("line", 1)]) (g := gName 1) rfl sc_shortest_for_lines.nd (pi_list (pv 0)) (blkOk_by (own := [("line", 1)]) (N := ["lines", "line", "found", "first", "one", "second", "longest"]) (sc := (defScope s_shortest_for_lines)) (by decide +kernel)) (fun _ _ _ _ _ => (pg_name (i := 1) sc_shortest_for_lines.nd rfl (Or.inl rfl))) (fun _ _ _ _ _ => pts_nil) (fun _ _ _ _ _ => (pe_callB (r := rSum K) (cr_sum (by rfl)) (by rfl) T.n_sum (by decide +kernel) (pa_cons (pv 1) pa_nil)))) pa_nil)))
      (pss_one (ps_ret (Hw.pe_ccS (takes_of rfl rfl rfl rfl) C_shortest_widths (hr.mono (by decide)) (by rfl) (pa_cons (pe_ix ix_list (pe_lc (own := [("line", 1)]) (g := gName 1) rfl sc_shortest_for_lines.nd (pi_list (pv 0)) (blkOk_by (own := [("line", 1)]) (N := ["lines", "line", "found", "first", "one", "second", "longest"]) (sc := (defScope s_shortest_for_lines)) (by decide +kernel)) (fun _ _ _ _ _ => (pg_name (i := 1) sc_shortest_for_lines.nd rfl (Or.inl rfl))) (fun _ _ _ _ _ => pts_one (pt_cmpR op_eq (pe_callB (r := rSum K) (cr_sum (by rfl)) (by rfl) T.n_sum (by decide +kernel) (pa_cons (pv 1) pa_nil)) (pv 6) (nomark _))) (fun _ _ _ _ _ => (pv 1))) pe_int (fun _ _ => rfl)) pa_nil))))))))), ?_⟩
  obtain ⟨p, as, lss, rfl, g, hn, hl, hp, q⟩ := h
  have l1 : 1 ≤ lss.length := by
    cases lss with
    | nil => exact absurd rfl hn
    | cons x t => simp
  have hlen : (as.map V.ref).length = lss.length := by rw [List.length_map, g.len]
  have lenI : ∀ {σ : L2.St} {H1 : Hp} {te : TE}, Ex H H1 → Ev te σ H1 (.ref p) → Ev (tCB (fun xs H Q => ∃ p ys, xs = [.ref p] ∧ (SqL K H p ys ∨ SqT K H p ys) ∧ Q (.int ys.length) H) (tCons te tNil)) σ H1 (.int (lss.length : Int)) := fun {σ H1 te} e h => by
    have := ev_cb (ea_cons h ea_nil) (rc_len (sq_of (g.ex e).top) (K := K))
    rw [hlen] at this
    exact this
  refine q_when (b := !true || !true) (et_or (et_not (et_B (ev_cb (ea_cons (ev_var rfl) (ea_cons ev_c ea_nil)) (rc_isi_l (sq_of g.top) (by decide +kernel))))) fun _ => et_not (et_is (a := decide ((1 : Int) ≤ (lss.length : Int)) && decide ((lss.length : Int) ≤ 40)) (et_B (ev_chain ev_c (lenI (Ex.refl _) (ev_var rfl)) rv_I0 fun _ => ⟨ev_c, rv_I0⟩)) (by rw [decide_eq_true (by omega), decide_eq_true (by omega)]; rfl))) (fun hb => by cases hb) fun _ H1 e1 => ?_
  refine q_forLn (ev_var rfl) (sq_of (g.ex e1).top) (fun i σ' H' => (∃ v, σ' = [some (.ref p), v, none, none, none, none, none]) ∧ Ex H H') (fun H2 e2 => ⟨⟨_, rfl⟩, e1.trans e2⟩) (fun i σ' H' _ ⟨_, e⟩ => sq_of (g.ex e).top) ?_ ?_
  · rintro i x σ' H' hi ⟨⟨v, rfl⟩, e⟩
    obtain ⟨a, l, rfl, ha, hl1, hh⟩ := g.addr' hi
    exact s_drop (ev_call (ea_cons (ev_var rfl) ea_nil) (spv_retV fun H1 e1 Q E k => ⟨_, _, rfl, sq_of ((e.trans e1) _ _ hh), hp l (List.mem_of_getElem? hl1), k⟩)) fun H2 e2 => ⟨⟨_, rfl⟩, e.trans e2⟩
  rintro σ' H2 ⟨⟨v, rfl⟩, e2⟩
  obtain ⟨fs, hfs⟩ : ∃ fs, fs = lss.map colsL := ⟨_, rfl⟩
  have fat : ∀ {j : Nat} {l : List Nat}, lss[j]? = some l → fs[j]? = some (colsL l) := fun {j l} h => by rw [hfs, List.getElem?_map, h]; rfl
  have flen : fs.length = lss.length := by rw [hfs, List.length_map]
  refine q_asgG (lss := fs) (eg_lcL (ev_var rfl) (sq_of (g.ex e2).top) (by rw [hlen, flen]) (by omega) (fun _ => rfl) fun i x l H3 e3 hx hl2 => ?_) fun p3 as3 H3 hp3 e3 g3 => ?_
  · obtain ⟨a, m, rfl, ha, hm, hh⟩ := g.addr' hx
    have : l = colsL m := by
      have := fat hm
      rw [hl2] at this
      exact Option.some.inj this
    subst this
    have hs := (hp m (List.mem_of_getElem? hm)).sum
    exact el_call (ea_cons (ev_var rfl) ea_nil) (spl_retL fun H4 e4 Q E k => ⟨_, _, rfl, sq_of (((e2.trans e3).trans e4) _ _ hh), by omega, k⟩)
  have e23 := e2.trans e3
  have lenF : ∀ {σ : L2.St} {H1 : Hp} {te : TE}, Ex H3 H1 → Ev te σ H1 (.ref p3) → Ev (tCB (fun xs H Q => ∃ p ys, xs = [.ref p] ∧ (SqL K H p ys ∨ SqT K H p ys) ∧ Q (.int ys.length) H) (tCons te tNil)) σ H1 (.int (lss.length : Int)) := fun {σ H1 te} e h => by
    have := ev_cb (ea_cons h ea_nil) (rc_len (sq_of (g3.ex e).top) (K := K))
    rw [List.length_map, g3.len, flen] at this
    exact this
  refine q_forEn (ev_var rfl) (sq_of g3.top) (fun i σ' H' => (∃ v1 v3 v4 v5, σ' = [some (.ref p), v1, some (.ref p3), v3, v4, v5, none]) ∧ Ex H3 H' ∧ ∀ k, k < i → clashRow lss k = none) (fun H4 e4 => ⟨⟨_, _, _, _, rfl⟩, e4, fun k hk => absurd hk (Nat.not_lt_zero _)⟩) (fun i σ' H' _ ⟨_, e, _⟩ => sq_of (g3.ex e).top) ?_ ?_
  · rintro i x σ' H' H4 hi ⟨⟨v1, v3, v4, v5, rfl⟩, e, hb⟩ e4
    obtain ⟨a, l, rfl, ha, hl3, hh⟩ := g3.addr' hi
    have hi1 : i < lss.length := by
      have := (List.getElem?_eq_some_iff.mp hl3).1
      omega
    have hli : lss[i]? = some (lss.getD i []) := by simp [List.getD, hi1]
    have el : l = colsL (lss.getD i []) := by
      have := fat hli
      rw [hl3] at this
      exact Option.some.inj this
    subst el
    refine s_forR2 (lo := ((i + 1 : Nat) : Int)) (n := (lss.length : Int)) (ea_cons (ev_op (ev_var rfl) (ev_n 1) rv_addN) (ea_cons (lenF (e.trans e4) (ev_var rfl)) ea_nil)) (by omega)
      (fun t σ' H' => (∃ v1 v5, σ' = [some (.ref p), v1, some (.ref p3), some (.int (i : Int)), some (.ref a), v5, none]) ∧ Ex H3 H' ∧ ∀ u, u < t → agreeB (lss.getD i []) (lss.getD (i + 1 + u) []) = true) (fun H5 e5 => ⟨⟨_, _, rfl⟩, (e.trans e4).trans e5, fun u hu => absurd hu (Nat.not_lt_zero _)⟩) ?_ ?_
    · rintro t σ' H5 ht ⟨⟨v1, v5, rfl⟩, e5, ha5⟩
      have ee : ((i + 1 : Nat) : Int) + (t : Int) = ((i + 1 + t : Nat) : Int) := by omega
      rw [ee]
      have ht1 : i + 1 + t < lss.length := by omega
      have hlt : lss[i + 1 + t]? = some (lss.getD (i + 1 + t) []) := by simp [List.getD, ht1]
      obtain ⟨b, hb3, hhb⟩ := g3.addr (fat hlt)
      have s1 := (hp _ (List.mem_of_getElem? hli)).sum
      have s2 := (hp _ (List.mem_of_getElem? hlt)).sum
      refine s_when (b := !agreeB (lss.getD i []) (lss.getD (i + 1 + t) [])) (et_not (et_B (ev_call (ea_cons (ev_var rfl) (ea_cons (ev_op (ev_var rfl) (ev_var rfl) (rv_grp (g3.ex e5) hb3)) ea_nil)) (spv_retV fun H6 e6 Q E k => ⟨_, _, _, _, rfl, sq_of ((e5.trans e6) _ _ hh), sq_of ((e5.trans e6) _ _ hhb), by rw [colsL_len]; omega, by rw [colsL_len]; omega, k⟩)))) (fun hb6 H6 e6 => ?_) fun hb6 H6 e6 => ?_
      · have hag : agreeB (lss.getD i []) (lss.getD (i + 1 + t) []) = false := by simpa using hb6
        have hc := clash_some hi1 (clashRow_some ht1 hag ha5) hb
        refine mk_fields (args := [.int (i : Int), .int ((i + 1 + t : Nat) : Int)]) (ea_cons (ev_var rfl) (ea_cons (ev_var rfl) ea_nil)) rfl (Nat.le_of_ble_eq_true rfl) fun d H' hd e h => ?_
        have e36 := (e23.trans e5).trans e6
        exact q.2 _ _ hc d H' (fresh_back e36 hd) (e36.trans e) h
      · refine ⟨⟨_, _, rfl⟩, e5.trans e6, fun u hu => ?_⟩
        by_cases z : u = t
        · rw [z]
          simpa using hb6
        · exact ha5 u (by omega)
    · rintro σ' H5 ⟨⟨v1, v5, rfl⟩, e5, ha5⟩
      refine ⟨⟨_, _, _, _, rfl⟩, e5, fun k hk => ?_⟩
      by_cases z : k = i
      · rw [z]
        exact clashRow_none fun u hu => ha5 u (by omega)
      · exact hb k (by omega)
  · rintro σ' H4 ⟨⟨v1, v3, v4, v5, rfl⟩, e4, hb⟩
    rw [List.length_map, g3.len, flen] at hb
    have hc := clash_is_none hb
    have q2 := q.1 hc
    obtain ⟨hi, hget, hsum⟩ := lng_at hn
    obtain ⟨a, ha, hh⟩ := g.addr hget
    have e24 := e23.trans e4
    refine q_asg (v := .int (mxs lss : Nat)) (ev_cbL (el_sums (g.ex e24) (by omega) (ev_var rfl) (fun _ => rfl) (fun _ => rfl)) fun p5 H5 hp5 e5 => rc_max (sq_of hp5) (by rw [List.length_map]; omega) (mxs_max hn)) fun H5 e5 => ?_
    have e25 := e24.trans e5
    obtain ⟨i0, t0, hl0, hi0, hs0⟩ := lngs_ne hn
    have ei : lngI lss = i0 := by unfold lngI; rw [hl0]; rfl
    rw [ei] at ha
    refine s_retS (vs := [.ref a]) ?_ fun H6 e6 => ?_
    · exact ea_cons (ev_ixNL (xs := (lngs lss).map fun i => (as.map V.ref).getD i .non) (by
        have := el_lcL (K := K) (σ := [some (V.ref p), v1, some (V.ref p3), v3, v4, v5, some (V.int (mxs lss : Nat))]) (H := H5) (tl := tVar 0) (j := 1) (vs := [1]) (t := tTest (tOp rEq (tCB (rSum K) (tCons (tVar 1) tNil)) (tVar 6))) (te := tVar 1) (fun i => decide ((lss.getD i []).sum = mxs lss)) (fun i => (as.map V.ref).getD i .non) (ev_var rfl) (sq_of (g.ex e25).top) (by omega) (fun _ => rfl) (fun i x H1 e hx => by
          obtain ⟨b, l, rfl, hb1, hl1, hhb⟩ := g.addr' hx
          rw [List.getD_eq_getElem?_getD, hl1]
          refine et_is (et_test (ev_op (ev_cb (ea_cons (ev_var rfl) ea_nil) (rc_sumN (sq_of ((e25.trans e) _ _ hhb)))) (ev_var rfl) (rv_eq rfl))) ?_
          rw [dec_vint]
          rfl) (fun i x H1 e hx _ => by
          rw [List.getD_eq_getElem?_getD, hx]
          exact ev_var rfl)
        rw [hlen] at this
        exact this) (fun H1 e => ev_c) (i := 0) (by
          rw [hl0]
          refine atI_nat (j := 0) ?_
          rw [List.map_cons, List.getElem?_cons_zero, List.getD_eq_getElem?_getD, List.getElem?_map, ha]
          rfl)) ea_nil
    · have e26 := e25.trans e6
      exact ⟨a, lng lss, rfl, sq_of (e26 _ _ hh), hp _ (List.mem_of_getElem? hget), q2.go e26⟩
theorem ok_shortest_for_lines_kw (T : Env K mg) : KCallee P w K mg base (L2.CX P w) 5 "shortest_for_lines" ["lines"] ["lines"] (fun vs zs => [zs.getD 0 .non]) (sp_shortest_for_lines K) := by
  have C_columns_of := ok_columns_of (P := P) (w := w) (base := base) T
  have C_do_agree := ok_do_agree (P := P) (w := w) (base := base) T
  have C_require_pieces := ok_require_pieces (P := P) (w := w) (base := base) T
  have C_shortest_widths := ok_shortest_widths (P := P) (w := w) (base := base) T
  obtain ⟨fI_Conflict, I_Conflict⟩ := ok_Conflict___init__ (P := P) (w := w) (base := base) T
  refine kcallee_ofX (g := fun us ws => [ws.getD 0 .none]) T.d_shortest_for_lines sc_shortest_for_lines T.g_shortest_for_lines (fun _ _ _ _ _ _ us ws h0 hl => match us, ws, h0, hl with | [], [_], _, _ => rfl) ?_ (fun vs H Q E h => by first | (obtain ⟨rfl, _⟩ := h; rfl) | (obtain ⟨_, rfl, _⟩ := h; rfl) | (obtain ⟨_, _, rfl, _⟩ := h; rfl) | (obtain ⟨_, _, _, rfl, _⟩ := h; rfl) | (obtain ⟨_, _, _, _, rfl, _⟩ := h; rfl) | (obtain ⟨_, _, _, _, _, rfl, _⟩ := h; rfl) | (obtain ⟨_, _, _, _, _, _, rfl, _⟩ := h; rfl) | (obtain ⟨_, _, _, _, _, _, _, rfl, _⟩ := h; rfl) | (obtain ⟨_, _, _, _, _, _, _, _, rfl, _⟩ := h; rfl)) ?_
  · intro vs us zs ws r1 r2
    exact .cons (vals_getD r2 0) (.nil)
  intro cdv f A outer s H vs Q E hr h
  refine ⟨_, (pss_cons (ps_if (PW.pt (pw_or (pt_not (pt_val (pe_callB call_isi (by rfl) T.n_isinstance (by decide +kernel) (pa_cons (pv 0) (pa_cons (pe_bltn (v := .ty "list") (by rfl) T.n_list (by decide +kernel) rfl) pa_nil))))) (pw_or1 (pt_not (pt_chain op_le op_le pe_int (pe_callB call_len_seq (by rfl) T.n_len PySem.boot_len (pa_cons (pv 0) pa_nil)) (pe_glob (v := .int 40) (by rfl) T.c_MAX_LINES.choose_spec ⟨_, rfl⟩)))))) (pss_one ps_never) pss_nil)
      (pss_cons (ps_for (passes_of rfl) rfl (pi_list (pv 0)) (pg_name (i := 1) sc_shortest_for_lines.nd rfl (Or.inl rfl))
      (pss_one (ps_expr (Hw.pe_cc C_require_pieces (hr.mono (by decide)) (by rfl) pass0 (pa_cons (pv 1) pa_nil)))))
      (pss_cons (ps_setLc (i := 2) (own := [("line", 1)]) (g := gName 1) rfl sc_shortest_for_lines.nd rfl rfl (sw_true rfl rfl rfl (by decide +kernel)) (pi_list (pv 0)) (blkOk_by (own := [("line", 1)]) (N := ["lines", "line", "found", "first", "one", "second", "longest"]) (sc := (defScope s_shortest_for_lines)) (by decide +kernel)) (fun _ _ _ _ _ => (pg_name (i := 1) sc_shortest_for_lines.nd rfl (Or.inl rfl))) (fun _ _ _ _ _ => pts_nil) (fun _ _ _ _ _ => (Hw.pe_cc C_columns_of (hr.mono (by decide)) (by rfl) pass0 (pa_cons (pv 1) pa_nil))))
      (pss_cons (ps_for (passes_of rfl) rfl (pi_enum (by rfl) T.n_enumerate (pa_cons (pv 2) pa_nil)) (pg_tup (by rfl) (pgs_cons (pg_name (i := 3) sc_shortest_for_lines.nd rfl (Or.inl rfl)) (pgs_cons (pg_name (i := 4) sc_shortest_for_lines.nd rfl (Or.inl rfl)) pgs_nil)))
      (pss_one (ps_for (passes_of rfl) rfl (pi_range2 (by rfl) T.n_range (pa_cons (pe_op op_add (pv 3) pe_int) (pa_cons (pe_callB call_len_seq (by rfl) T.n_len PySem.boot_len (pa_cons (pv 2) pa_nil)) pa_nil))) (pg_name (i := 5) sc_shortest_for_lines.nd rfl (Or.inl rfl))
      (pss_one (ps_if (pt_not (pt_val (Hw.pe_cc C_do_agree (hr.mono (by decide)) (by rfl) pass0 (pa_cons (pv 4) (pa_cons (pe_ix ix_list (pv 2) (pv 5) (fun _ _ => rfl)) pa_nil))))) (pss_one (ps_raise rfl (takes_of rfl rfl rfl rfl) (pmk_oex T.o_Conflict.1 T.m_Conflict___init__.at_ (Hw.fn_type T.m_Conflict___init__.fn) I_Conflict.1 (hr.mono (by decide)) I_Conflict.2 .nil pass0 (by rfl) T.g_Conflict (pa_cons (pv 3) (pa_cons (pv 5) pa_nil))))) pss_nil)))))
      (pss_cons (ps_set (i := 6) sc_shortest_for_lines.nd rfl (Or.inr rfl) (pe_callB (cr_max (by rfl)) (by rfl) T.n_max (by decide +kernel) (pa_cons (pe_lc (own := [("line", 1)]) (g := gName 1) rfl sc_shortest_for_lines.nd (pi_list (pv 0)) (blkOk_by (own := [("line", 1)]) (N := ["lines", "line", "found", "first", "one", "second", "longest"]) (sc := (defScope s_shortest_for_lines)) (by decide +kernel)) (fun _ _ _ _ _ => (pg_name (i := 1) sc_shortest_for_lines.nd rfl (Or.inl rfl))) (fun _ _ _ _ _ => pts_nil) (fun _ _ _ _ _ => (pe_callB (r := rSum K) (cr_sum (by rfl)) (by rfl) T.n_sum (by decide +kernel) (pa_cons (pv 1) pa_nil)))) pa_nil)))
      (pss_one (ps_ret (Hw.pe_ccS (takes_of rfl rfl rfl rfl) C_shortest_widths (hr.mono (by decide)) (by rfl) (pa_cons (pe_ix ix_list (pe_lc (own := [("line", 1)]) (g := gName 1) rfl sc_shortest_for_lines.nd (pi_list (pv 0)) (blkOk_by (own := [("line", 1)]) (N := ["lines", "line", "found", "first", "one", "second", "longest"]) (sc := (defScope s_shortest_for_lines)) (by decide +kernel)) (fun _ _ _ _ _ => (pg_name (i := 1) sc_shortest_for_lines.nd rfl (Or.inl rfl))) (fun _ _ _ _ _ => pts_one (pt_cmpR op_eq (pe_callB (r := rSum K) (cr_sum (by rfl)) (by rfl) T.n_sum (by decide +kernel) (pa_cons (pv 1) pa_nil)) (pv 6) (nomark _))) (fun _ _ _ _ _ => (pv 1))) pe_int (fun _ _ => rfl)) pa_nil))))))))), ?_⟩
  obtain ⟨p, as, lss, rfl, g, hn, hl, hp, q⟩ := h
  have l1 : 1 ≤ lss.length := by
    cases lss with
    | nil => exact absurd rfl hn
    | cons x t => simp
  have hlen : (as.map V.ref).length = lss.length := by rw [List.length_map, g.len]
  have lenI : ∀ {σ : L2.St} {H1 : Hp} {te : TE}, Ex H H1 → Ev te σ H1 (.ref p) → Ev (tCB (fun xs H Q => ∃ p ys, xs = [.ref p] ∧ (SqL K H p ys ∨ SqT K H p ys) ∧ Q (.int ys.length) H) (tCons te tNil)) σ H1 (.int (lss.length : Int)) := fun {σ H1 te} e h => by
    have := ev_cb (ea_cons h ea_nil) (rc_len (sq_of (g.ex e).top) (K := K))
    rw [hlen] at this
    exact this
  refine q_when (b := !true || !true) (et_or (et_not (et_B (ev_cb (ea_cons (ev_var rfl) (ea_cons ev_c ea_nil)) (rc_isi_l (sq_of g.top) (by decide +kernel))))) fun _ => et_not (et_is (a := decide ((1 : Int) ≤ (lss.length : Int)) && decide ((lss.length : Int) ≤ 40)) (et_B (ev_chain ev_c (lenI (Ex.refl _) (ev_var rfl)) rv_I0 fun _ => ⟨ev_c, rv_I0⟩)) (by rw [decide_eq_true (by omega), decide_eq_true (by omega)]; rfl))) (fun hb => by cases hb) fun _ H1 e1 => ?_
  refine q_forLn (ev_var rfl) (sq_of (g.ex e1).top) (fun i σ' H' => (∃ v, σ' = [some (.ref p), v, none, none, none, none, none]) ∧ Ex H H') (fun H2 e2 => ⟨⟨_, rfl⟩, e1.trans e2⟩) (fun i σ' H' _ ⟨_, e⟩ => sq_of (g.ex e).top) ?_ ?_
  · rintro i x σ' H' hi ⟨⟨v, rfl⟩, e⟩
    obtain ⟨a, l, rfl, ha, hl1, hh⟩ := g.addr' hi
    exact s_drop (ev_call (ea_cons (ev_var rfl) ea_nil) (spv_retV fun H1 e1 Q E k => ⟨_, _, rfl, sq_of ((e.trans e1) _ _ hh), hp l (List.mem_of_getElem? hl1), k⟩)) fun H2 e2 => ⟨⟨_, rfl⟩, e.trans e2⟩
  rintro σ' H2 ⟨⟨v, rfl⟩, e2⟩
  obtain ⟨fs, hfs⟩ : ∃ fs, fs = lss.map colsL := ⟨_, rfl⟩
  have fat : ∀ {j : Nat} {l : List Nat}, lss[j]? = some l → fs[j]? = some (colsL l) := fun {j l} h => by rw [hfs, List.getElem?_map, h]; rfl
  have flen : fs.length = lss.length := by rw [hfs, List.length_map]
  refine q_asgG (lss := fs) (eg_lcL (ev_var rfl) (sq_of (g.ex e2).top) (by rw [hlen, flen]) (by omega) (fun _ => rfl) fun i x l H3 e3 hx hl2 => ?_) fun p3 as3 H3 hp3 e3 g3 => ?_
  · obtain ⟨a, m, rfl, ha, hm, hh⟩ := g.addr' hx
    have : l = colsL m := by
      have := fat hm
      rw [hl2] at this
      exact Option.some.inj this
    subst this
    have hs := (hp m (List.mem_of_getElem? hm)).sum
    exact el_call (ea_cons (ev_var rfl) ea_nil) (spl_retL fun H4 e4 Q E k => ⟨_, _, rfl, sq_of (((e2.trans e3).trans e4) _ _ hh), by omega, k⟩)
  have e23 := e2.trans e3
  have lenF : ∀ {σ : L2.St} {H1 : Hp} {te : TE}, Ex H3 H1 → Ev te σ H1 (.ref p3) → Ev (tCB (fun xs H Q => ∃ p ys, xs = [.ref p] ∧ (SqL K H p ys ∨ SqT K H p ys) ∧ Q (.int ys.length) H) (tCons te tNil)) σ H1 (.int (lss.length : Int)) := fun {σ H1 te} e h => by
    have := ev_cb (ea_cons h ea_nil) (rc_len (sq_of (g3.ex e).top) (K := K))
    rw [List.length_map, g3.len, flen] at this
    exact this
  refine q_forEn (ev_var rfl) (sq_of g3.top) (fun i σ' H' => (∃ v1 v3 v4 v5, σ' = [some (.ref p), v1, some (.ref p3), v3, v4, v5, none]) ∧ Ex H3 H' ∧ ∀ k, k < i → clashRow lss k = none) (fun H4 e4 => ⟨⟨_, _, _, _, rfl⟩, e4, fun k hk => absurd hk (Nat.not_lt_zero _)⟩) (fun i σ' H' _ ⟨_, e, _⟩ => sq_of (g3.ex e).top) ?_ ?_
  · rintro i x σ' H' H4 hi ⟨⟨v1, v3, v4, v5, rfl⟩, e, hb⟩ e4
    obtain ⟨a, l, rfl, ha, hl3, hh⟩ := g3.addr' hi
    have hi1 : i < lss.length := by
      have := (List.getElem?_eq_some_iff.mp hl3).1
      omega
    have hli : lss[i]? = some (lss.getD i []) := by simp [List.getD, hi1]
    have el : l = colsL (lss.getD i []) := by
      have := fat hli
      rw [hl3] at this
      exact Option.some.inj this
    subst el
    refine s_forR2 (lo := ((i + 1 : Nat) : Int)) (n := (lss.length : Int)) (ea_cons (ev_op (ev_var rfl) (ev_n 1) rv_addN) (ea_cons (lenF (e.trans e4) (ev_var rfl)) ea_nil)) (by omega)
      (fun t σ' H' => (∃ v1 v5, σ' = [some (.ref p), v1, some (.ref p3), some (.int (i : Int)), some (.ref a), v5, none]) ∧ Ex H3 H' ∧ ∀ u, u < t → agreeB (lss.getD i []) (lss.getD (i + 1 + u) []) = true) (fun H5 e5 => ⟨⟨_, _, rfl⟩, (e.trans e4).trans e5, fun u hu => absurd hu (Nat.not_lt_zero _)⟩) ?_ ?_
    · rintro t σ' H5 ht ⟨⟨v1, v5, rfl⟩, e5, ha5⟩
      have ee : ((i + 1 : Nat) : Int) + (t : Int) = ((i + 1 + t : Nat) : Int) := by omega
      rw [ee]
      have ht1 : i + 1 + t < lss.length := by omega
      have hlt : lss[i + 1 + t]? = some (lss.getD (i + 1 + t) []) := by simp [List.getD, ht1]
      obtain ⟨b, hb3, hhb⟩ := g3.addr (fat hlt)
      have s1 := (hp _ (List.mem_of_getElem? hli)).sum
      have s2 := (hp _ (List.mem_of_getElem? hlt)).sum
      refine s_when (b := !agreeB (lss.getD i []) (lss.getD (i + 1 + t) [])) (et_not (et_B (ev_call (ea_cons (ev_var rfl) (ea_cons (ev_op (ev_var rfl) (ev_var rfl) (rv_grp (g3.ex e5) hb3)) ea_nil)) (spv_retV fun H6 e6 Q E k => ⟨_, _, _, _, rfl, sq_of ((e5.trans e6) _ _ hh), sq_of ((e5.trans e6) _ _ hhb), by rw [colsL_len]; omega, by rw [colsL_len]; omega, k⟩)))) (fun hb6 H6 e6 => ?_) fun hb6 H6 e6 => ?_
      · have hag : agreeB (lss.getD i []) (lss.getD (i + 1 + t) []) = false := by simpa using hb6
        have hc := clash_some hi1 (clashRow_some ht1 hag ha5) hb
        refine mk_fields (args := [.int (i : Int), .int ((i + 1 + t : Nat) : Int)]) (ea_cons (ev_var rfl) (ea_cons (ev_var rfl) ea_nil)) rfl (Nat.le_of_ble_eq_true rfl) fun d H' hd e h => ?_
        have e36 := (e23.trans e5).trans e6
        exact q.2 _ _ hc d H' (fresh_back e36 hd) (e36.trans e) h
      · refine ⟨⟨_, _, rfl⟩, e5.trans e6, fun u hu => ?_⟩
        by_cases z : u = t
        · rw [z]
          simpa using hb6
        · exact ha5 u (by omega)
    · rintro σ' H5 ⟨⟨v1, v5, rfl⟩, e5, ha5⟩
      refine ⟨⟨_, _, _, _, rfl⟩, e5, fun k hk => ?_⟩
      by_cases z : k = i
      · rw [z]
        exact clashRow_none fun u hu => ha5 u (by omega)
      · exact hb k (by omega)
  · rintro σ' H4 ⟨⟨v1, v3, v4, v5, rfl⟩, e4, hb⟩
    rw [List.length_map, g3.len, flen] at hb
    have hc := clash_is_none hb
    have q2 := q.1 hc
    obtain ⟨hi, hget, hsum⟩ := lng_at hn
    obtain ⟨a, ha, hh⟩ := g.addr hget
    have e24 := e23.trans e4
    refine q_asg (v := .int (mxs lss : Nat)) (ev_cbL (el_sums (g.ex e24) (by omega) (ev_var rfl) (fun _ => rfl) (fun _ => rfl)) fun p5 H5 hp5 e5 => rc_max (sq_of hp5) (by rw [List.length_map]; omega) (mxs_max hn)) fun H5 e5 => ?_
    have e25 := e24.trans e5
    obtain ⟨i0, t0, hl0, hi0, hs0⟩ := lngs_ne hn
    have ei : lngI lss = i0 := by unfold lngI; rw [hl0]; rfl
    rw [ei] at ha
    refine s_retS (vs := [.ref a]) ?_ fun H6 e6 => ?_
    · exact ea_cons (ev_ixNL (xs := (lngs lss).map fun i => (as.map V.ref).getD i .non) (by
        have := el_lcL (K := K) (σ := [some (V.ref p), v1, some (V.ref p3), v3, v4, v5, some (V.int (mxs lss : Nat))]) (H := H5) (tl := tVar 0) (j := 1) (vs := [1]) (t := tTest (tOp rEq (tCB (rSum K) (tCons (tVar 1) tNil)) (tVar 6))) (te := tVar 1) (fun i => decide ((lss.getD i []).sum = mxs lss)) (fun i => (as.map V.ref).getD i .non) (ev_var rfl) (sq_of (g.ex e25).top) (by omega) (fun _ => rfl) (fun i x H1 e hx => by
          obtain ⟨b, l, rfl, hb1, hl1, hhb⟩ := g.addr' hx
          rw [List.getD_eq_getElem?_getD, hl1]
          refine et_is (et_test (ev_op (ev_cb (ea_cons (ev_var rfl) ea_nil) (rc_sumN (sq_of ((e25.trans e) _ _ hhb)))) (ev_var rfl) (rv_eq rfl))) ?_
          rw [dec_vint]
          rfl) (fun i x H1 e hx _ => by
          rw [List.getD_eq_getElem?_getD, hx]
          exact ev_var rfl)
        rw [hlen] at this
        exact this) (fun H1 e => ev_c) (i := 0) (by
          rw [hl0]
          refine atI_nat (j := 0) ?_
          rw [List.map_cons, List.getElem?_cons_zero, List.getD_eq_getElem?_getD, List.getElem?_map, ha]
          rfl)) ea_nil
    · have e26 := e25.trans e6
      exact ⟨a, lng lss, rfl, sq_of (e26 _ _ hh), hp _ (List.mem_of_getElem? hget), q2.go e26⟩
end

/-! ### drawn lists of lists -/
theorem pi_listK {X : Cx} {K : PySem.W.Frag} {tg l : Expr} {tl : TE} (hl : PE X l tl) (hK : X.K = K := by rfl) : PI X tg l (iList K tl) := by
  subst hK
  exact pi_list hl
section
variable {n : Addr} {k k1 k2 : Nat} {G H : Hp} {σ : L2.St} {ta tb tc te tl : TE} {t : TT} {K : PySem.W.Frag} {Pa Pb Pz : Int → Prop} {D : Ends} {tu tz : TS} {i : Nat}
theorem Wn.put {p : Addr} {o o' : HO} (w : Wn n k G H) (h : G p = some o) : Wn n k (upd G p o') (upd H p o') := by
  have ne := w.at_ne h
  refine ⟨by rw [upd_ne (Ne.symm ne)]; exact w.off, fun x u hx => ?_, ?_⟩
  · by_cases z : x = p
    · subst z
      rw [upd_same] at hx ⊢
      exact hx
    · rw [upd_ne z] at hx ⊢
      exact w.ex x u hx
  · obtain ⟨a, b, c, h1, h2⟩ := w.nb
    exact ⟨a, b, c, by rw [upd_ne (Ne.symm ne)]; exact h1, h2⟩
theorem n_asgNW {P : List Nat → Prop} (h : EvNW n k k1 G te σ P) (w : Wn n k G H) (q : ∀ ws p H1, P ws → G p = none → p ≠ n → Wn n k1 (upd G p (.lst (nl ws))) H1 → tz D (σ.set i (some (.ref p))) H1) : tSeq (tAsg te (gName i)) tz D σ H := h H w _ q
/-- _law_broken(ws, a drawn number) -/
theorem enw_broken {E : XK} {pc : Addr} {ws : List Nat} {B : Nat} (ha : Ev ta σ G (.ref pc)) (hs : SqL K G pc (nl ws)) (hw : Wd ws) (hl : ws.length ≤ 40000) (hc : EvN n k1 k G tc σ fun z => ∃ t : Nat, z = (t : Int) ∧ 1 ≤ t ∧ t ≤ B) (hB : B ≤ 40000) :
    EvNW n k1 k G (tCall (sp__law_broken K) [] E (tCons ta (tCons tc tNil))) σ fun l => ∃ t, 1 ≤ t ∧ t ≤ B ∧ l = brk ws t := by
  intro H w Q q
  refine ha H w.ex _ fun H1 e1 => ?_
  refine hc H1 (w.step e1) _ fun z H2 hz w2 => ?_
  obtain ⟨t, rfl, ht1, ht2⟩ := hz
  refine ⟨pc, ws, t, rfl, ex_l w2.ex hs, hw, hl, by omega, fun p H3 hp e3 h3 => ?_⟩
  exact q _ p H3 ⟨t, ht1, ht2, rfl⟩ (fresh_back w2.ex hp) (w2.fresh hp) (w2.new hp e3 h3)
/-- _law_broken(a drawn list, a drawn number) -/
theorem enw_broken2 {E : XK} {B : Nat} {Pw : List Nat → Prop} (ha : EvNW n k k1 G ta σ Pw) (hP : ∀ ws, Pw ws → Wd ws ∧ ws.length ≤ 40000) (hc : ∀ G', Ex G G' → EvN n k1 k2 G' tc σ fun z => ∃ t : Nat, z = (t : Int) ∧ 1 ≤ t ∧ t ≤ B) (hB : B ≤ 40000) :
    EvNW n k k2 G (tCall (sp__law_broken K) [] E (tCons ta (tCons tc tNil))) σ fun l => ∃ ws t, Pw ws ∧ 1 ≤ t ∧ t ≤ B ∧ l = brk ws t := by
  intro H w Q q
  refine ha H w _ fun ws pc H1 pw hpc ne w1 => ?_
  refine hc _ (Ex.new hpc) H1 w1 _ fun z H2 hz w2 => ?_
  obtain ⟨t, rfl, ht1, ht2⟩ := hz
  have hs : SqL K (upd G pc (.lst (nl ws))) pc (nl ws) := sq_of upd_same
  have w3 := w2.drop hpc
  refine ⟨pc, ws, t, rfl, ex_l w2.ex hs, (hP ws pw).1, (hP ws pw).2, by omega, fun p H3 hp e3 h3 => ?_⟩
  exact q _ p H3 ⟨ws, t, pw, ht1, ht2, rfl⟩ (fresh_back w3.ex hp) (w3.fresh hp) (w3.new hp e3 h3)
def EvNG (n : Addr) (k k' : Nat) (G : Hp) (te : TE) (σ : L2.St) (P : List (List Nat) → Prop) : Prop :=
  ∀ H, Wn n k G H → ∀ Q : VK, (∀ lss p as G' H', P lss → Ex G G' → Grp G' p as lss → (∀ a ∈ p :: as, G a = none) → Wn n k' G' H' → Q (.ref p) H') → te σ H Q
theorem n_asgNG {P : List (List Nat) → Prop} (h : EvNG n k k1 G te σ P) (w : Wn n k G H) (q : ∀ lss p as G' H1, P lss → Ex G G' → Grp G' p as lss → (∀ a ∈ p :: as, G a = none) → Wn n k1 G' H1 → tz D (σ.set i (some (.ref p))) H1) : tSeq (tAsg te (gName i)) tz D σ H := h H w _ q
/-- [a drawn list for x in range(m)] -/
theorem eng_lcR1 {ta : TA} {j m c : Nat} {vs : List Nat} {Pl : List Nat → Prop} (h : EvA ta σ G [.int (m : Int)]) (hm : m ≤ 1000) (hw : ∀ x, wipe ((wipe σ vs).set j (some x)) vs = wipe σ vs)
    (he : ∀ (i kk : Nat) (G' : Hp), i < m → Ex G G' → EvNW n (kk + c) kk G' te ((wipe σ vs).set j (some (.int (i : Int)))) Pl) :
    EvNG n (k + c * m) k G (tLc (iRng1 ta) (gName j) tYes te vs) σ fun lss => lss.length = m ∧ ∀ l ∈ lss, Pl l := by
  intro H w Q q
  refine h H w.ex _ fun H1 e1 => ⟨(m : Int), rfl, by omega, by omega, fun Dl hD => ?_⟩
  have w1 := w.step e1
  have hG := fresh_back w1.ex hD
  refine lc_range (lo := 0) (n := ((m : Int)).toNat) (fun i H' => ∃ (lss : List (List Nat)) (as : List Addr) (G' : Hp), lss.length = i ∧ (∀ l ∈ lss, Pl l) ∧ Ex G G' ∧ Grp G' Dl as lss ∧ (∀ a ∈ as, G a = none) ∧ Wn n (k + c * (m - i)) G' H') ⟨[], [], upd G Dl (.lst []), rfl, fun x hx => (by cases hx), Ex.new hG, ⟨upd_same, rfl, fun i j a h1 _ => (by cases h1), by simp, fun j a l h1 _ => by cases h1⟩, fun x hx => (by cases hx), (w1.new hD (Ex.new hD) (upd_same (o := .lst []))).le (by rw [Nat.sub_zero]; exact Nat.le_refl _)⟩ ?_ ?_
  · rintro i H' hi ⟨lss, as, G', hj, hp, eG, g, hfr, w2⟩
    have e0 : (0 : Int) + (i : Int) = (i : Int) := Int.zero_add _
    show wipe ((wipe σ vs).set j (some (.int ((0 : Int) + (i : Int))))) vs = wipe σ vs ∧ tYes ((wipe σ vs).set j (some (.int ((0 : Int) + (i : Int))))) H' fun b H3 => if b = true then te ((wipe σ vs).set j (some (.int ((0 : Int) + (i : Int))))) H3 fun y H4 => ∃ acc, H4 Dl = some (.lst acc) ∧ acc.length < sizeLine ∧ ∃ (lss : List (List Nat)) (as : List Addr) (G' : Hp), lss.length = i + 1 ∧ (∀ l ∈ lss, Pl l) ∧ Ex G G' ∧ Grp G' Dl as lss ∧ (∀ a ∈ as, G a = none) ∧ Wn n (k + c * (m - (i + 1))) G' (upd H4 Dl (.lst (acc ++ [y]))) else ∃ (lss : List (List Nat)) (as : List Addr) (G' : Hp), lss.length = i + 1 ∧ (∀ l ∈ lss, Pl l) ∧ Ex G G' ∧ Grp G' Dl as lss ∧ (∀ a ∈ as, G a = none) ∧ Wn n (k + c * (m - (i + 1))) G' H3
    rw [e0]
    refine ⟨hw _, ?_⟩
    show te _ H' _
    have him : i < m := by omega
    have hk : k + c * (m - i) = (k + c * (m - (i + 1))) + c := by
      rw [show m - i = (m - (i + 1)) + 1 by omega, Nat.mul_succ]
      omega
    rw [hk] at w2
    refine he i (k + c * (m - (i + 1))) G' him eG H' w2 _ fun ws p2 H4 pw hp2 ne2 w4 => ?_
    have g4 := g.ex (Ex.new hp2 (o := .lst (nl ws)))
    refine ⟨as.map V.ref, w4.ex _ _ g4.top, by rw [List.length_map, g.len]; exact sz_lt (by omega), lss ++ [ws], as ++ [p2], upd (upd G' p2 (.lst (nl ws))) Dl (.lst (as.map V.ref ++ [.ref p2])), by rw [List.length_append, hj]; rfl, fun l hl => ?_, (eG.trans (Ex.new hp2)).mut hG, g.snoc (Ex.new hp2) hp2 upd_same, fun b hb => ?_, w4.put g4.top⟩
    · rcases List.mem_append.mp hl with z | z
      · exact hp l z
      · rw [List.mem_singleton.mp z]; exact pw
    · rcases List.mem_append.mp hb with z | z
      · exact hfr b z
      · rw [List.mem_singleton.mp z]; exact fresh_back eG hp2
  · rintro H' ⟨lss, as, G', hj, hp, eG, g, hfr, w2⟩
    refine q lss Dl as G' H' ⟨by omega, hp⟩ eG g (fun b hb => ?_) (w2.le (by omega))
    rcases List.mem_cons.mp hb with z | z
    · rw [z]; exact hG
    · exact hfr b z
/-- int(a truth) -/
def EvNB (n : Addr) (k k' : Nat) (G : Hp) (te : TE) (σ : L2.St) : Prop := ∀ H, Wn n k G H → ∀ Q : VK, (∀ b H', Wn n k' G H' → Q (.bl b) H') → te σ H Q
theorem en_int01 (h : EvNB n k k1 G te σ) : EvN n k k1 G (tCB (fun xs H Q => (∃ i, xs = [.int i] ∧ Q (.int i) H) ∨ ∃ k, xs = [.bl k] ∧ Q (.int (if k then 1 else 0)) H) (tCons te tNil)) σ (fun i => 0 ≤ i ∧ i ≤ 1) :=
  fun H w Q q => h H w _ fun b H' w' => .inr ⟨b, rfl, q _ H' (by cases b <;> decide) w'⟩
theorem enb_eq {m : Int} (h : EvN n k k1 G ta σ Pa) (hb : ∀ H1, Ex G H1 → Ev tb σ H1 (.int m)) : EvNB n k k1 G (tOp rEq ta tb) σ := fun H w Q q =>
  h H w _ fun i H1 _ w1 => hb H1 w1.ex H1 (Ex.refl _) _ fun H2 e2 => ⟨rfl, q _ H2 (w1.step e2)⟩
theorem enb_and {a : Bool} (ha : Ev ta σ G (.bl a)) (hb : EvNB n k k1 G tb σ) (hk : k1 ≤ k) : EvNB n k k1 G (tAndV ta tb) σ := fun H w Q q =>
  ha H w.ex _ fun H1 e1 => ⟨a, rfl, by
    cases a with
    | true => exact hb H1 (w.step e1) Q q
    | false => exact q false H1 ((w.step e1).le hk)⟩
section
variable {n : Addr} {k k1 k2 : Nat} {G H : Hp} {σ : L2.St} {ta tb te to ti : TE} {K : PySem.W.Frag} {Pa Pb Pz : Int → Prop} {D : Ends} {tz : TS} {i j : Nat}
theorem n_par (ha : EvN n k k1 G ta σ Pa) (hb : EvN n k1 k2 G tb σ Pb) (w : Wn n k G H) (q : ∀ x y H1, Pa x → Pb y → Wn n k2 G H1 → tz D ((σ.set i (some (.int x))).set j (some (.int y))) H1) : tSeq (tPar i j (tCons ta (tCons tb tNil))) tz D σ H :=
  ha H w _ fun x H1 px w1 => hb H1 w1 _ fun y H2 py w2 => ⟨_, _, rfl, q x y H2 px py w2⟩
/-- group[j] = a drawn list -/
theorem n_setG {p : Addr} {as : List Addr} {lss : List (List Nat)} {P : List Nat → Prop} (h : EvNW n k k1 G te σ P) (g : Grp G p as lss) (ho : ∀ G', Ex G G' → Ev to σ G' (.ref p)) (hi : ∀ G', Ex G G' → Ev ti σ G' (.int (j : Int))) (hj : j < lss.length) (w : Wn n k G H)
    (q : ∀ l b H1, P l → G b = none → Wn n k1 (upd (upd G b (.lst (nl l))) p (.lst ((as.map V.ref).set j (.ref b)))) H1 → D.nx σ H1) : tAsg te (gSub to ti rSetL) D σ H :=
  h H w _ fun l b H1 pl hb ne w1 => ho _ (Ex.new hb) H1 w1.ex _ fun H2 e2 => hi _ (Ex.new hb) H2 ((w1.step e2).ex) _ fun H3 e3 => by
    have w3 := (w1.step e2).step e3
    have g3 := g.ex (Ex.new hb (o := .lst (nl l)))
    exact ⟨p, as.map V.ref, (j : Int), j, rfl, rfl, w3.ex _ _ g3.top, ixN_nat (by rw [List.length_map, g.len]; exact hj), q l b _ pl hb (w3.put g3.top)⟩
/-- xs[j] = a drawn number, xs of the world -/
theorem n_setP {a : Addr} {xs : List V} (h : EvN n k k1 G te σ Pz) (hp : G a = some (.lst xs)) (ho : Ev to σ G (.ref a)) (hi : Ev ti σ G (.int (j : Int))) (hj : j < xs.length) (w : Wn n k G H)
    (q : ∀ z H1, Pz z → Wn n k1 (upd G a (.lst (xs.set j (.int z)))) H1 → D.nx σ H1) : tAsg te (gSub to ti rSetL) D σ H :=
  h H w _ fun z H1 pz w1 => ho H1 w1.ex _ fun H2 e2 => hi H2 ((w1.step e2).ex) _ fun H3 e3 => by
    have w3 := (w1.step e2).step e3
    exact ⟨a, xs, (j : Int), j, rfl, rfl, w3.ex _ _ hp, ixN_nat hj, q z _ pz (w3.put hp)⟩
end
end

/-! ### what reading several lines together gives -/
inductive Res where
  | lst (l : List Nat)
  | one (n : Nat)
  | two (i j : Nat)
def shortR (sz : List Nat) : Res := match obst (colF sz) sz.sum with
  | some n => .one n
  | none => .lst (desc (colF sz) sz.sum)
def linesR (lss : List (List Nat)) : Res := match clash lss with
  | some (i, j) => .two i j
  | none => shortR (lng lss)
def Res.ho : Res → HO
  | .lst l => .lst (nl l)
  | .one n => .tup [.int (n : Int)]
  | .two i j => .tup [.int (i : Int), .int (j : Int)]
def Res.dat : Res → PyData
  | .lst l => dN l
  | .one n => .tuple [.int (n : Int)]
  | .two i j => .tuple [.int (i : Int), .int (j : Int)]
def RetO (o : HO) (H : Hp) (Q : VK) : Prop := ∀ p H2, H p = none → Ex H H2 → H2 p = some o → Q (.ref p) H2
theorem RetO.step {o : HO} {H H1 : Hp} {Q : VK} (k : RetO o H Q) (e : Ex H H1) : RetO o H1 Q := fun p H2 hp e2 h => k p H2 (fresh_back e hp) (e.trans e2) h
theorem dp_res {K : PySem.W.Frag} {H : Hp} {p : Addr} {r : Res} (h : H p = some r.ho) : Dp K H (.ref p) r.dat := by
  cases r with
  | lst l => exact dp_nl (sq_of h)
  | one n => exact .tup (st_of h) (.cons (.int _) .nil)
  | two i j => exact .tup (st_of h) (.cons (.int _) (.cons (.int _) .nil))
def Res.small : Res → Prop
  | .lst l => l.length ≤ 600 ∧ ∀ x ∈ l, x ≤ 10 ^ 41
  | .one n => n ≤ 10 ^ 41
  | .two i j => i ≤ 10 ^ 41 ∧ j ≤ 10 ^ 41
theorem sh_res {r : Res} (h : r.small) : Showy r.dat := by
  cases r with
  | lst l => exact sh_dN h.2 (Nat.le_trans h.1 (by decide))
  | one n =>
    refine (Sh.tuple (n := 0) (m := 140) (ds := [PyData.int (n : Int)]) fun d hd => ?_).showy (by decide) (show 1 * (140 + 1) ≤ 100000 by decide)
    rw [List.mem_singleton.mp hd]
    exact sh_nat h
  | two i j =>
    refine (Sh.tuple (n := 0) (m := 140) (ds := [PyData.int (i : Int), PyData.int (j : Int)]) fun d hd => ?_).showy (by decide) (show 2 * (140 + 1) ≤ 100000 by decide)
    rcases List.mem_cons.mp hd with e | hd
    · rw [e]; exact sh_nat h.1
    · rw [List.mem_singleton.mp hd]; exact sh_nat h.2
theorem lines_small {lss : List (List Nat)} (hn : lss ≠ []) (hl : lss.length ≤ 1000) (hp : ∀ l ∈ lss, Pcs l) (hs : ∀ l ∈ lss, l.sum ≤ 600) : (linesR lss).small := by
  unfold linesR
  cases hc : clash lss with
  | some ij =>
    obtain ⟨i, j⟩ := ij
    have := clash_lt hc
    have h1 : i ≤ 1000 := by omega
    have h2 : j ≤ 1000 := by omega
    exact ⟨Nat.le_trans h1 (by decide), Nat.le_trans h2 (by decide)⟩
  | none =>
    obtain ⟨hi, hget, hsum⟩ := lng_at hn
    have hs2 := hs _ (List.mem_of_getElem? hget)
    show (shortR (lng lss)).small
    unfold shortR
    cases ho : obst (colF (lng lss)) (lng lss).sum with
    | some m =>
      have h1 : m ≤ 600 := Nat.le_trans (obst_le ho) hs2
      exact Nat.le_trans h1 (by decide)
    | none =>
      refine ⟨Nat.le_trans (desc_len _) hs2, fun x hx => ?_⟩
      have := (desc_mem _ hx).2
      have h1 : x ≤ 600 := by omega
      exact Nat.le_trans h1 (by decide)
section
variable {P : Program} {w : World} {K : PySem.W.Frag} {mg : Str → Option Value} {base : Heap} {σ : L2.St} {H : Hp} {D : Ends} {te : TE} {tz : TS}
theorem rc_isi_t {a : Addr} {xs : List V} {c : String} {b : Bool} (hs : H a = some (.tup xs)) (h : kitB "tuple" c = some b) : RC (rIsi K) [.ref a, .ty c] H (.bl b) := rc_isi (fun _ e => .base (.tup (e _ _ hs))) (kit_ty h)
/-- an assignment of what is returned anew -/
theorem q_asgO {i : Nat} {o : HO} (h : ∀ H1, Ex H H1 → ∀ Q : VK, RetO o H1 Q → te σ H1 Q) (k : ∀ p H1, H p = none → Ex H H1 → H1 p = some o → tz D (σ.set i (some (.ref p))) H1) : tSeq (tAsg te (gName i)) tz D σ H := h H (Ex.refl H) _ k
/-- the error that a reading of lines lets out, told as a result -/
theorem linesOr_of {lss : List (List Nat)} {Q : VK} {E : XK} (h1 : ∀ l, linesR lss = .lst l → RetL (nl l) H Q) (h2 : ∀ n, linesR lss = .one n → OutNW K n H E) (h3 : ∀ i j, linesR lss = .two i j → OutCf K i j H E) : LinesOr K lss H Q E := by
  refine ⟨fun hc => ⟨fun ho => h1 _ ?_, fun n ho => h2 _ ?_⟩, fun i j hc => h3 _ _ ?_⟩
  · unfold linesR shortR
    rw [hc]
    show (match obst (colF (lng lss)) (lng lss).sum with | some n => Res.one n | none => Res.lst (desc (colF (lng lss)) (lng lss).sum)) = _
    rw [ho]
  · unfold linesR shortR
    rw [hc]
    show (match obst (colF (lng lss)) (lng lss).sum with | some n => Res.one n | none => Res.lst (desc (colF (lng lss)) (lng lss).sum)) = _
    rw [ho]
  · unfold linesR
    rw [hc]
end

/-! ### the law k42 -/
section
variable {P : Program} {w : World} {K : PySem.W.Frag} {mg : Str → Option Value} {base : Heap}
def sp__law_clash (K : PySem.W.Frag) : Sp := fun vs H Q _ => ∃ (p : Addr) (as : List Addr) (lss : List (List Nat)), vs = [.ref p] ∧ Grp H p as lss ∧ lss.length ≤ 1000 ∧ (∀ l ∈ lss, l.sum ≤ 40000) ∧
  (clash lss = none → RetV .non H Q) ∧ ∀ i j, clash lss = some (i, j) → RetO (.tup [.int (i : Int), .int (j : Int)]) H Q
theorem ok__law_clash (T : Env K mg) : Callee P w K mg base CX0 2 "_law_clash" ["group"] [] (sp__law_clash K) := by
  have C__law_cols := ok__law_cols (P := P) (w := w) (base := base) T
  refine callee_of T.g__law_clash T.d__law_clash sc__law_clash (fun _ _ _ _ _ _ us hl => match us, hl with | [_], _ => rfl) (fun vs H Q E h => by first | (obtain ⟨rfl, _⟩ := h; rfl) | (obtain ⟨_, rfl, _⟩ := h; rfl) | (obtain ⟨_, _, rfl, _⟩ := h; rfl) | (obtain ⟨_, _, _, rfl, _⟩ := h; rfl) | (obtain ⟨_, _, _, _, rfl, _⟩ := h; rfl) | (obtain ⟨_, _, _, _, _, rfl, _⟩ := h; rfl) | (obtain ⟨_, _, _, _, _, _, rfl, _⟩ := h; rfl) | (obtain ⟨_, _, _, _, _, _, _, rfl, _⟩ := h; rfl) | (obtain ⟨_, _, _, _, _, _, _, _, rfl, _⟩ := h; rfl)) ?_
  intro cdv f A outer s H vs Q E hr h
  refine ⟨_, (pss_cons (ps_setLc (i := 1) (own := [("sizes", 5)]) (g := gName 5) rfl sc__law_clash.nd rfl rfl (sw_true rfl rfl rfl (by decide +kernel)) (pi_list (pv 0)) (blkOk_by (own := [("sizes", 5)]) (N := ["group", "found", "one", "two", "common", "sizes"]) (sc := (defScope s__law_clash)) (by decide +kernel)) (fun _ _ _ _ _ => (pg_name (i := 5) sc__law_clash.nd rfl (Or.inl rfl))) (fun _ _ _ _ _ => pts_nil) (fun _ _ _ _ _ => (Hw.pe_cc C__law_cols (hr.mono (by decide)) (by rfl) pass0 (pa_cons (pv 5) pa_nil))))
      (pss_cons (ps_for PassesOwn.never rfl (pi_range1 (by rfl) T.n_range (pa_cons (pe_callB call_len_seq (by rfl) T.n_len PySem.boot_len (pa_cons (pv 1) pa_nil)) pa_nil)) (pg_name (i := 2) sc__law_clash.nd rfl (Or.inl rfl))
      (pss_one (ps_for PassesOwn.never rfl (pi_range2 (by rfl) T.n_range (pa_cons (pe_op op_add (pv 2) pe_int) (pa_cons (pe_callB call_len_seq (by rfl) T.n_len PySem.boot_len (pa_cons (pv 1) pa_nil)) pa_nil))) (pg_name (i := 3) sc__law_clash.nd rfl (Or.inl rfl))
      (pss_cons (ps_set (i := 4) sc__law_clash.nd rfl (Or.inl rfl) (pe_callB (call_min2 (by rfl)) (by rfl) T.n_min (by decide +kernel) (pa_cons (pe_callB call_len_seq (by rfl) T.n_len PySem.boot_len (pa_cons (pe_ix ix_list (pv 1) (pv 2) (fun _ _ => rfl)) pa_nil)) (pa_cons (pe_callB call_len_seq (by rfl) T.n_len PySem.boot_len (pa_cons (pe_ix ix_list (pv 1) (pv 3) (fun _ _ => rfl)) pa_nil)) pa_nil))))
      (pss_one (ps_if (pt_cmpR (op_neD hr.units) (pe_slice sl_list (pe_ix ix_list (pv 1) (pv 2) (fun _ _ => rfl)) po_none (po_some (pv 4))) (pe_slice sl_list (pe_ix ix_list (pv 1) (pv 3) (fun _ _ => rfl)) po_none (po_some (pv 4))) (nomark _)) (pss_one (ps_ret (pe_tup (pa_cons (pv 2) (pa_cons (pv 3) pa_nil))))) pss_nil))))))
      (pss_one (ps_ret pe_non)))), ?_⟩
  obtain ⟨p, as, lss, rfl, g, hl, hp, q0, q1⟩ := h
  have hlen : (as.map V.ref).length = lss.length := by rw [List.length_map, g.len]
  obtain ⟨fs, hfs⟩ : ∃ fs, fs = lss.map colsL := ⟨_, rfl⟩
  have fat : ∀ {j : Nat} {l : List Nat}, lss[j]? = some l → fs[j]? = some (colsL l) := fun {j l} h => by rw [hfs, List.getElem?_map, h]; rfl
  have flen : fs.length = lss.length := by rw [hfs, List.length_map]
  refine q_asgG (lss := fs) (eg_lcL (ev_var rfl) (sq_of g.top) (by rw [hlen, flen]) (by omega) (fun _ => rfl) fun i x l H3 e3 hx hl2 => ?_) fun p3 as3 H3 hp3 e3 g3 => ?_
  · obtain ⟨a, m, rfl, ha, hm, hh⟩ := g.addr' hx
    have : l = colsL m := by
      have := fat hm
      rw [hl2] at this
      exact Option.some.inj this
    subst this
    have hs := hp m (List.mem_of_getElem? hm)
    exact el_call (ea_cons (ev_var rfl) ea_nil) (spl_retL fun H4 e4 Q E k => ⟨_, _, rfl, sq_of ((e3.trans e4) _ _ hh), by omega, k⟩)
  have lenF : ∀ {σ : L2.St} {H1 : Hp} {te : TE}, Ex H3 H1 → Ev te σ H1 (.ref p3) → Ev (tCB (fun xs H Q => ∃ p ys, xs = [.ref p] ∧ (SqL K H p ys ∨ SqT K H p ys) ∧ Q (.int ys.length) H) (tCons te tNil)) σ H1 (.int (lss.length : Int)) := fun {σ H1 te} e h => by
    have := ev_cb (ea_cons h ea_nil) (rc_len (sq_of (g3.ex e).top) (K := K))
    rw [List.length_map, g3.len, flen] at this
    exact this
  refine q_forR1 (n := (lss.length : Int)) (ea_cons (lenF (Ex.refl _) (ev_var rfl)) ea_nil) (by omega) (fun i σ' H' => (∃ v2 v3 v4, σ' = [some (.ref p), some (.ref p3), v2, v3, v4, none]) ∧ Ex H3 H' ∧ ∀ k, k < i → clashRow lss k = none) (fun H4 e4 => ⟨⟨_, _, _, rfl⟩, e4, fun k hk => absurd hk (Nat.not_lt_zero _)⟩) ?_ ?_
  · rintro i σ' H4 hi ⟨⟨v2, v3, v4, rfl⟩, e, hb⟩
    have hi1 : i < lss.length := by omega
    have hli : lss[i]? = some (lss.getD i []) := by simp [List.getD, hi1]
    obtain ⟨a, ha, hh⟩ := g3.addr (fat hli)
    refine s_forR2 (lo := ((i + 1 : Nat) : Int)) (n := (lss.length : Int)) (ea_cons (ev_op (ev_var rfl) (ev_n 1) rv_addN) (ea_cons (lenF e (ev_var rfl)) ea_nil)) (by omega)
      (fun t σ' H' => (∃ v3 v4, σ' = [some (.ref p), some (.ref p3), some (.int (i : Int)), v3, v4, none]) ∧ Ex H3 H' ∧ ∀ u, u < t → agreeB (lss.getD i []) (lss.getD (i + 1 + u) []) = true) (fun H5 e5 => ⟨⟨_, _, rfl⟩, e.trans e5, fun u hu => absurd hu (Nat.not_lt_zero _)⟩) ?_ ?_
    · rintro t σ' H5 ht ⟨⟨v3, v4, rfl⟩, e5, ha5⟩
      have ee : ((i + 1 : Nat) : Int) + (t : Int) = ((i + 1 + t : Nat) : Int) := by omega
      rw [ee]
      have ht1 : i + 1 + t < lss.length := by omega
      have hlt : lss[i + 1 + t]? = some (lss.getD (i + 1 + t) []) := by simp [List.getD, ht1]
      obtain ⟨b, hb3, hhb⟩ := g3.addr (fat hlt)
      obtain ⟨xs, hxs⟩ : ∃ xs, xs = colsL (lss.getD i []) := ⟨_, rfl⟩
      obtain ⟨ys, hys⟩ : ∃ ys, ys = colsL (lss.getD (i + 1 + t) []) := ⟨_, rfl⟩
      rw [← hxs] at hh
      rw [← hys] at hhb
      have hag : agreeB (lss.getD i []) (lss.getD (i + 1 + t) []) = decide (xs.take (min xs.length ys.length) = ys.take (min xs.length ys.length)) := by rw [hxs, hys]; rfl
      have ia : ∀ {σ : L2.St} {H6 : Hp} {t1 t2 : TE}, Ex H5 H6 → Ev t1 σ H6 (.ref p3) → Ev t2 σ H6 (.int (i : Int)) → Ev (tOp (rIxL K) t1 t2) σ H6 (.ref a) := fun e6 h1 h2 => ev_op h1 h2 (rv_grp (g3.ex (e5.trans e6)) ha)
      have ib : ∀ {σ : L2.St} {H6 : Hp} {t1 t2 : TE}, Ex H5 H6 → Ev t1 σ H6 (.ref p3) → Ev t2 σ H6 (.int ((i + 1 + t : Nat) : Int)) → Ev (tOp (rIxL K) t1 t2) σ H6 (.ref b) := fun e6 h1 h2 => ev_op h1 h2 (rv_grp (g3.ex (e5.trans e6)) hb3)
      refine q_asg (v := .int ((min xs.length ys.length : Nat) : Int)) (ev_is (ev_cb (ea_cons (ev_cb (ea_cons (ia (Ex.refl _) (ev_var rfl) (ev_var rfl)) ea_nil) (rc_lenN (sq_of (e5 _ _ hh)))) (ea_cons (ev_cb (ea_cons (ib (Ex.refl _) (ev_var rfl) (ev_var rfl)) ea_nil) (rc_lenN (sq_of (e5 _ _ hhb)))) ea_nil)) rc_min2) (by rw [min_int])) fun H6 e6 => ?_
      refine s_when (b := !agreeB (lss.getD i []) (lss.getD (i + 1 + t) [])) (et_is (et_test (ev_opLL (el_sl (ia e6 (ev_var rfl) (ev_var rfl)) eo_none (eo_some (ev_var rfl)) (sq_of ((e5.trans e6) _ _ hh))) (el_sl (ib e6 (ev_var rfl) (ev_var rfl)) eo_none (eo_some (ev_var rfl)) (sq_of ((e5.trans e6) _ _ hhb))) fun pa pb Hx ha hb _ => by
          rw [cutV_0n, nl_take] at ha
          rw [cutV_0n, nl_take] at hb
          exact rv_neD (dp_nl (sq_of ha)) (dp_nl (sq_of hb)) (shaped_dN _) (shaped_dN _))) (by rw [eqv_dN, hag])) (fun hb6 H7 e7 => ?_) fun hb6 H7 e7 => ?_
      · have hag2 : agreeB (lss.getD i []) (lss.getD (i + 1 + t) []) = false := by simpa using hb6
        have hc := clash_some hi1 (clashRow_some ht1 hag2 ha5) hb
        have e37 := ((e3.trans e5).trans e6).trans e7
        exact s_retU (eu_tup (ea_cons (ev_var rfl) (ea_cons (ev_var rfl) ea_nil)) (show 2 ≤ 100000 by decide)) fun p8 H8 hp8 e8 h8 => q1 _ _ hc p8 H8 (fresh_back e37 hp8) (e37.trans e8) h8
      · refine ⟨⟨_, _, rfl⟩, (e5.trans e6).trans e7, fun u hu => ?_⟩
        by_cases z : u = t
        · rw [z]
          simpa using hb6
        · exact ha5 u (by omega)
    · rintro σ' H5 ⟨⟨v3, v4, rfl⟩, e5, ha5⟩
      refine ⟨⟨_, _, _, rfl⟩, e5, fun k hk => ?_⟩
      by_cases z : k = i
      · rw [z]
        exact clashRow_none fun u hu => ha5 u (by omega)
      · exact hb k (by omega)
  · rintro σ' H4 ⟨⟨v2, v3, v4, rfl⟩, e4, hb⟩
    rw [Int.toNat_natCast] at hb
    exact s_ret ev_c fun H5 e5 => q0 (clash_is_none hb) H5 ((e3.trans e4).trans e5)
def sp__law_told (K : PySem.W.Frag) : Sp := fun vs H Q _ => ∃ (p : Addr) (as : List Addr) (lss : List (List Nat)), vs = [.ref p] ∧ Grp H p as lss ∧ lss ≠ [] ∧ lss.length ≤ 40 ∧ (∀ l ∈ lss, Pcs l) ∧ RetO (linesR lss).ho H Q
theorem ok__law_told (T : Env K mg) : Callee P w K mg base CX0 6 "_law_told" ["group"] [] (sp__law_told K) := by
  have C_shortest_for_lines := ok_shortest_for_lines (P := P) (w := w) (base := base) T
  refine callee_of T.g__law_told T.d__law_told sc__law_told (fun _ _ _ _ _ _ us hl => match us, hl with | [_], _ => rfl) (fun vs H Q E h => by first | (obtain ⟨rfl, _⟩ := h; rfl) | (obtain ⟨_, rfl, _⟩ := h; rfl) | (obtain ⟨_, _, rfl, _⟩ := h; rfl) | (obtain ⟨_, _, _, rfl, _⟩ := h; rfl) | (obtain ⟨_, _, _, _, rfl, _⟩ := h; rfl) | (obtain ⟨_, _, _, _, _, rfl, _⟩ := h; rfl) | (obtain ⟨_, _, _, _, _, _, rfl, _⟩ := h; rfl) | (obtain ⟨_, _, _, _, _, _, _, rfl, _⟩ := h; rfl) | (obtain ⟨_, _, _, _, _, _, _, _, rfl, _⟩ := h; rfl)) ?_
  intro cdv f A outer s H vs Q E hr h
  refine ⟨_, (pss_one (Hw.ps_try_clauses rfl rfl sc__law_told.nd takes0 (fun W pn xe tk po => (pss_one (ps_ret (Hw.pe_ccS tk C_shortest_for_lines (hr.mono (by decide)) (by rfl) (pa_cons (pv 0) pa_nil))))) (.cons (i := 1) ⟨by rfl, by decide, Or.inl T.g_Conflict⟩ rfl rfl (fun a oe cls d pn hz hf => (pss_one (ps_ret (pe_tup (pa_cons (pe_xf T.o_Conflict.2 T.a_Conflict_first hz hf (pv 1)) (pa_cons (pe_xf T.o_Conflict.2 T.a_Conflict_second hz hf (pv 1)) pa_nil)))))) (.cons (i := 1) ⟨by rfl, by decide, Or.inl T.g_NotWrapped⟩ rfl rfl (fun a oe cls d pn hz hf => (pss_one (ps_ret (pe_tup (pa_cons (pe_xf T.o_NotWrapped.2 T.a_NotWrapped_position hz hf (pv 1)) pa_nil))))) .nil)))), ?_⟩
  obtain ⟨p, as, lss, rfl, g, hn, hl, hp, q⟩ := h
  refine s_retS (vs := [.ref p]) (ea_cons (ev_var rfl) ea_nil) fun H1 e1 => ⟨p, as, lss, rfl, g.ex e1, hn, hl, hp, linesOr_of (fun l hr => ?_) (fun n hr => ?_) fun i j hr => ?_⟩
  · rw [hr] at q
    exact RetO.step q e1
  · rw [hr] at q
    intro d H' hd e h
    refine ⟨false, T.e_NotWrapped_Conflict, (fun hb => by cases hb), fun _ => ⟨true, T.e_NotWrapped_NotWrapped, fun _ a ha => ?_, (fun hb => by cases hb)⟩⟩
    exact s_retU (eu_tup (ea_cons (ev_xf (ev_var rfl) rfl h (by simp [List.lookup])) ea_nil) (show 1 ≤ 100000 by decide)) fun p2 H2 hp2 e2 h2 => q p2 H2 (fresh_back (e1.trans e) hp2) ((e1.trans e).trans e2) h2
  · rw [hr] at q
    intro d H' hd e h
    refine ⟨true, T.e_Conflict_Conflict, fun _ a ha => ?_, (fun hb => by cases hb)⟩
    exact s_retU (eu_tup (ea_cons (ev_xf (ev_var rfl) rfl h (by simp [List.lookup, show (("first" : Str) == "second") = false from by decide +kernel])) (ea_cons (ev_xf (ev_var rfl) rfl h (by simp [List.lookup])) ea_nil)) (show 2 ≤ 100000 by decide)) fun p2 H2 hp2 e2 h2 => q p2 H2 (fresh_back (e1.trans e) hp2) ((e1.trans e).trans e2) h2
end

/-! ### the law k42: its own def -/
section
variable {P : Program} {w : World} {K : PySem.W.Frag} {mg : Str → Option Value} {base : Heap}
theorem sh_small {x : Nat} (h : x < 2 ^ 8) : Sh 0 8 (.int (x : Int)) := by
  have a := Sh.int (i := (x : Int)) (by rw [Int.natAbs_natCast]; exact Nat.lt_trans h (by decide))
  refine ⟨a.s, a.l, a.p, ?_⟩
  have hl : ((x : Int)).natAbs.log2 < 8 := PySem.Flt.log2_lt_of (by decide) (by rw [Int.natAbs_natCast]; exact h)
  simp only [PyData.weight]
  split <;> omega
/-- a line of at most B characters -/
def Ln (B : Nat) (l : List Nat) : Prop := Pos l ∧ l ≠ [] ∧ l.sum ≤ B
theorem Ln.mono {B C : Nat} {l : List Nat} (h : Ln B l) (hb : B ≤ C) : Ln C l := ⟨h.1, h.2.1, Nat.le_trans h.2.2 hb⟩
theorem Ln.pcs {B : Nat} {l : List Nat} (h : Ln B l) (hb : B ≤ 400) : Pcs l := ⟨h.1, h.2.1, Nat.le_trans (len_le_sum h.1) (Nat.le_trans h.2.2 hb), Nat.le_trans h.2.2 (Nat.le_trans hb (by decide))⟩
theorem ln_brk {ws : List Nat} {t B : Nat} (h : Wd ws) (h1 : 1 ≤ t) (h2 : t ≤ B) : Ln B (brk ws t) := by
  refine ⟨brk_pos h.pos t, fun z => ?_, by rw [brk_sum h.pos]; exact h2⟩
  have := brk_sum h.pos t
  rw [z] at this
  simp at this
  omega
theorem ln_set {B : Nat} {l : List Nat} {i x y : Nat} (h : Ln B l) (hx : l[i]? = some x) (h1 : 1 ≤ y) (h2 : y ≤ x + 2) : Ln (B + 2) (l.set i y) := by
  refine ⟨fun z hz => ?_, fun z => ?_, ?_⟩
  · rcases List.mem_or_eq_of_mem_set hz with q | q
    · exact h.1 z q
    · omega
  · have := congrArg List.length z
    rw [List.length_set] at this
    exact h.2.1 (List.length_eq_zero_iff.mp this)
  · have := sum_set l i y x hx
    have := h.2.2
    omega
theorem all_set {α : Type} {P : α → Prop} {l : List α} {i : Nat} {y : α} (h : ∀ x ∈ l, P x) (hy : P y) : ∀ x ∈ l.set i y, P x := fun x hx => by
  rcases List.mem_or_eq_of_mem_set hx with q | q
  · exact h x q
  · rw [q]; exact hy
def lastG : List (List Nat) := [[3, 1], [3, 2, 3, 2], [2]]
theorem last_clash : clash [[3, 1], [3, 2, 3, 2], [2]] = none := by decide +kernel
theorem last_obst : obst (colF (lng [[3, 1], [3, 2, 3, 2], [2]])) (lng [[3, 1], [3, 2, 3, 2], [2]]).sum = none := by decide +kernel
theorem last_desc : desc (colF (lng [[3, 1], [3, 2, 3, 2], [2]])) (lng [[3, 1], [3, 2, 3, 2], [2]]).sum = [5, 3] := by decide +kernel
theorem last_pcs : ∀ l ∈ [[3, 1], [3, 2, 3, 2], [2]], Pcs l := by
  have h : ∀ l ∈ [[3, 1], [3, 2, 3, 2], [2]], (∀ x ∈ l, 0 < x) ∧ l ≠ [] ∧ l.length ≤ 400 ∧ l.sum ≤ 10000 := by decide
  exact fun l hl => ⟨(h l hl).1, (h l hl).2.1, (h l hl).2.2.1, (h l hl).2.2.2⟩
def sp_law (K : PySem.W.Frag) : Sp := fun vs H Q _ => ∃ (a : Addr) (ns : List Int), vs = [.ref a] ∧ SqL K H a (il ns) ∧ ns.length ≤ 63 ∧ ∀ H', Q (.bl true) H'
theorem ok_law (T : Env K mg) {fd : FuncData} (F : FunD K "law" "law" (defArgs s_law) (defBody s_law) (defScope s_law) [] [] (He.ga K "law") fd) : FnG P w K mg base CX0 7 (He.ga K "law") fd ["script"] (sp_law K) := by
  have C__law_bag := ok__law_bag (P := P) (w := w) (base := base) T
  have C__law_broken := ok__law_broken (P := P) (w := w) (base := base) T
  have C__law_chain := ok__law_chain (P := P) (w := w) (base := base) T
  have C__law_clash := ok__law_clash (P := P) (w := w) (base := base) T
  have C__law_take := ok__law_take (P := P) (w := w) (base := base) T
  have C__law_told := ok__law_told (P := P) (w := w) (base := base) T
  have C_first_obstacle := ok_first_obstacle (P := P) (w := w) (base := base) T
  have C_shortest_for_lines := ok_shortest_for_lines (P := P) (w := w) (base := base) T
  have C_shortest_for_lines_kw := ok_shortest_for_lines_kw (P := P) (w := w) (base := base) T
  have C_shortest_widths := ok_shortest_widths (P := P) (w := w) (base := base) T
  refine lawfn_of F sc_law (fun vs H Q E h => by first | (obtain ⟨rfl, _⟩ := h; rfl) | (obtain ⟨_, rfl, _⟩ := h; rfl) | (obtain ⟨_, _, rfl, _⟩ := h; rfl) | (obtain ⟨_, _, _, rfl, _⟩ := h; rfl) | (obtain ⟨_, _, _, _, rfl, _⟩ := h; rfl) | (obtain ⟨_, _, _, _, _, rfl, _⟩ := h; rfl) | (obtain ⟨_, _, _, _, _, _, rfl, _⟩ := h; rfl) | (obtain ⟨_, _, _, _, _, _, _, rfl, _⟩ := h; rfl) | (obtain ⟨_, _, _, _, _, _, _, _, rfl, _⟩ := h; rfl)) ?_
  intro cdv f A outer s H vs Q E hga hr h
  refine ⟨_, (pss_cons (ps_for PassesOwn.never rfl (pi_range1 (by rfl) T.n_range (pa_cons (pe_callB (call_max2 (by rfl)) (by rfl) T.n_max (by decide +kernel) (pa_cons pe_int (pa_cons (pe_callB (call_min2 (by rfl)) (by rfl) T.n_min (by decide +kernel) (pa_cons (pe_callB call_len_seq (by rfl) T.n_len PySem.boot_len (pa_cons (pv 0) pa_nil)) (pa_cons pe_int pa_nil))) pa_nil))) pa_nil)) (pg_name (i := 1) sc_law.nd rfl (Or.inl rfl))
      (pss_cons (ps_set (i := 2) sc_law.nd rfl (Or.inr rfl) (Hw.pe_cc C__law_bag (hr.mono (by decide)) (by rfl) pass0 (pa_cons (pv 0) (pa_cons (pv 1) pa_nil))))
      (pss_one (ps_for PassesOwn.never rfl (pi_range1 (by rfl) T.n_range (pa_cons pe_int pa_nil)) (pg_name (i := 3) sc_law.nd rfl (Or.inl rfl))
      (pss_cons (ps_set (i := 4) sc_law.nd rfl (Or.inr rfl) (Hw.pe_cc C__law_chain (hr.mono (by decide)) (by rfl) pass0 (pa_cons (pv 2) (pa_cons pe_int (pa_cons (pe_ix ix_list (pe_lst (pa_cons pe_int (pa_cons pe_int pa_nil))) (Hw.pe_cc C__law_take (hr.mono (by decide)) (by rfl) pass0 (pa_cons (pv 2) (pa_cons pe_int pa_nil))) (fun _ _ => rfl)) pa_nil)))))
      (pss_cons (ps_set (i := 5) sc_law.nd rfl (Or.inl rfl) (pe_ix ix_list (pe_lst (pa_cons (pe_op op_add pe_int (Hw.pe_cc C__law_take (hr.mono (by decide)) (by rfl) pass0 (pa_cons (pv 2) (pa_cons pe_int pa_nil)))) (pa_cons pe_int pa_nil))) (pe_callTy call_int1 (by rfl) T.n_int (by decide +kernel) (pa_cons (pe_and (pe_cmpR op_eq (pe_op op_add (pv 1) (pv 3)) pe_int (nomark _)) (pe_one (pe_cmpR op_eq (Hw.pe_cc C__law_take (hr.mono (by decide)) (by rfl) pass0 (pa_cons (pv 2) (pa_cons pe_int pa_nil))) pe_int (nomark _)))) pa_nil)) (fun _ _ => rfl)))
      (pss_cons (ps_set (i := 6) sc_law.nd rfl (Or.inr rfl) (pe_lc (own := [("each", 14)]) (g := gName 14) rfl sc_law.nd (pi_range1 (by rfl) T.n_range (pa_cons (pv 5) pa_nil)) (blkOk_by (own := [("each", 14)]) (N := ["script", "k", "bag", "turn", "chain", "many", "group", "spot", "way", "place", "kept", "due", "longest", "told", "each", "sizes"]) (sc := (defScope s_law)) (by decide +kernel)) (fun _ _ _ _ _ => (pg_name (i := 14) sc_law.nd rfl (Or.inl rfl))) (fun _ _ _ _ _ => pts_nil) (fun _ _ _ _ _ => (Hw.pe_cc C__law_broken (hr.mono (by decide)) (by rfl) pass0 (pa_cons (pv 4) (pa_cons (pe_op op_add pe_int (Hw.pe_cc C__law_take (hr.mono (by decide)) (by rfl) pass0 (pa_cons (pv 2) (pa_cons pe_int pa_nil)))) pa_nil))))))
      (pss_cons (ps_par (i := 7) (j := 8) (by rfl) sc_law.nd rfl rfl (by decide) rfl rfl (pa_cons (Hw.pe_cc C__law_take (hr.mono (by decide)) (by rfl) pass0 (pa_cons (pv 2) (pa_cons (pe_callB call_len_seq (by rfl) T.n_len PySem.boot_len (pa_cons (pv 6) pa_nil)) pa_nil))) (pa_cons (Hw.pe_cc C__law_take (hr.mono (by decide)) (by rfl) pass0 (pa_cons (pv 2) (pa_cons pe_int pa_nil))) pa_nil)) (by rfl))
      (pss_cut (ps_if (pt_cmpR op_eq (pv 8) pe_int (nomark _)) (pss_one (ps_asg (Hw.pe_cc C__law_broken (hr.mono (by decide)) (by rfl) pass0 (pa_cons (Hw.pe_cc C__law_chain (hr.mono (by decide)) (by rfl) pass0 (pa_cons (pv 2) (pa_cons pe_int (pa_cons pe_int pa_nil)))) (pa_cons (pe_op op_add pe_int (Hw.pe_cc C__law_take (hr.mono (by decide)) (by rfl) pass0 (pa_cons (pv 2) (pa_cons pe_int pa_nil)))) pa_nil))) (pg_sub (pv 6) (pv 7) set_list))) pss_nil)
      (pss_cut (ps_if (pt_cmpR op_eq (pv 8) pe_int (nomark _)) (pss_cons (ps_set (i := 9) sc_law.nd rfl (Or.inl rfl) (Hw.pe_cc C__law_take (hr.mono (by decide)) (by rfl) pass0 (pa_cons (pv 2) (pa_cons (pe_callB call_len_seq (by rfl) T.n_len PySem.boot_len (pa_cons (pe_ix ix_list (pv 6) (pv 7) (fun _ _ => rfl)) pa_nil)) pa_nil))))
      (pss_one (ps_asg (pe_callB (call_max2 (by rfl)) (by rfl) T.n_max (by decide +kernel) (pa_cons pe_int (pa_cons (pe_op op_sub (pe_op op_add (pe_ix ix_list (pe_ix ix_list (pv 6) (pv 7) (fun _ _ => rfl)) (pv 9) (fun _ _ => rfl)) (Hw.pe_cc C__law_take (hr.mono (by decide)) (by rfl) pass0 (pa_cons (pv 2) (pa_cons pe_int pa_nil)))) pe_int) pa_nil))) (pg_sub (pe_ix ix_list (pv 6) (pv 7) (fun _ _ => rfl)) (pv 9) set_list)))) pss_nil)
      (pss_cons (ps_par (i := 10) (j := 11) (by rfl) sc_law.nd rfl rfl (by decide) rfl rfl (pa_cons (pe_callB (Hw.call_reprD hga hr) (by rfl) T.n_repr (by decide +kernel) (pa_cons (pv 6) pa_nil)) (pa_cons (Hw.pe_cc C__law_clash (hr.mono (by decide)) (by rfl) pass0 (pa_cons (pv 6) pa_nil)) pa_nil)) (by rfl))
      (pss_cons (ps_set (i := 12) sc_law.nd rfl (Or.inl rfl) (pe_ix ix_list (pe_lc (own := [("sizes", 15)]) (g := gName 15) rfl sc_law.nd (pi_list (pv 6)) (blkOk_by (own := [("sizes", 15)]) (N := ["script", "k", "bag", "turn", "chain", "many", "group", "spot", "way", "place", "kept", "due", "longest", "told", "each", "sizes"]) (sc := (defScope s_law)) (by decide +kernel)) (fun _ _ _ _ _ => (pg_name (i := 15) sc_law.nd rfl (Or.inl rfl))) (fun _ _ _ _ _ => pts_one (pt_cmpR op_eq (pe_callB (r := rSum K) (cr_sum (by rfl)) (by rfl) T.n_sum (by decide +kernel) (pa_cons (pv 15) pa_nil)) (pe_callB (r := rMax K) (cr_max (by rfl)) (by rfl) T.n_max (by decide +kernel) (pa_cons (pe_lc (own := [("each", 14)]) (g := gName 14) rfl sc_law.nd (pi_listK (K := K) (pv 6)) (blkOk_by (own := [("each", 14)]) (N := ["script", "k", "bag", "turn", "chain", "many", "group", "spot", "way", "place", "kept", "due", "longest", "told", "each", "sizes"]) (sc := _) (by kernel_rfl)) (fun _ _ _ _ _ => (pg_name (i := 14) sc_law.nd rfl (Or.inl rfl))) (fun _ _ _ _ _ => pts_nil) (fun _ _ _ _ _ => (pe_callB (r := rSum K) (cr_sum (by rfl)) (by rfl) T.n_sum (by decide +kernel) (pa_cons (pv 14) pa_nil)))) pa_nil)) (nomark _))) (fun _ _ _ _ _ => (pv 15))) pe_int (fun _ _ => rfl)))
      (pss_cut (ps_if (pt_cmpR op_isN (pv 11) pe_non (nomark _)) (pss_cons (ps_set (i := 9) sc_law.nd rfl (Or.inl rfl) (Hw.pe_cc C_first_obstacle (hr.mono (by decide)) (by rfl) pass0 (pa_cons (pv 12) pa_nil)))
      (pss_one (ps_set (i := 11) sc_law.nd rfl (Or.inl rfl) (pe_ifExp (pt_cmpR op_notN (pv 9) pe_non (nomark _)) (pe_tup (pa_cons (pv 9) pa_nil)) (Hw.pe_cc C_shortest_widths (hr.mono (by decide)) (by rfl) passL (pa_cons (pv 12) pa_nil)))))) pss_nil)
      (pss_cons (ps_set (i := 13) sc_law.nd rfl (Or.inr rfl) (Hw.pe_cc C__law_told (hr.mono (by decide)) (by rfl) pass0 (pa_cons (pv 6) pa_nil)))
      (pss_cons (ps_if (PW.pt (pw_or (pt_cmpR op_ne (pe_callB (Hw.call_reprD hga hr) (by rfl) T.n_repr (by decide +kernel) (pa_cons (pv 13) pa_nil)) (pe_callB (Hw.call_reprD hga hr) (by rfl) T.n_repr (by decide +kernel) (pa_cons (pv 11) pa_nil)) (nomark _)) (pw_or1 (pt_cmpR op_ne (pe_callB (Hw.call_reprD hga hr) (by rfl) T.n_repr (by decide +kernel) (pa_cons (pv 6) pa_nil)) (pv 10) (nomark _))))) (pss_one (ps_ret pe_bl)) pss_nil)
      (pss_one (ps_if (pt_val (pe_callB call_isi (by rfl) T.n_isinstance (by decide +kernel) (pa_cons (pv 13) (pa_cons (pe_bltn (v := .ty "list") (by rfl) T.n_list (by decide +kernel) rfl) pa_nil)))) (pss_cons (ps_if (pt_cmpR (op_neD hr.units) (pe_lc (own := [("sizes", 15)]) (g := gName 15) rfl sc_law.nd (pi_list (pv 6)) (blkOk_by (own := [("sizes", 15)]) (N := ["script", "k", "bag", "turn", "chain", "many", "group", "spot", "way", "place", "kept", "due", "longest", "told", "each", "sizes"]) (sc := (defScope s_law)) (by decide +kernel)) (fun _ _ _ _ _ => (pg_name (i := 15) sc_law.nd rfl (Or.inl rfl))) (fun _ _ _ _ _ => pts_one (pt_cmpR (r := rNeD K) (op_neD hr.units) (Hw.pe_cc C__law_broken (hr.mono (by decide)) (by rfl) pass0 (pa_cons (pv 13) (pa_cons (pe_callB (r := rSum K) (cr_sum (by rfl)) (by rfl) T.n_sum (by decide +kernel) (pa_cons (pv 15) pa_nil)) pa_nil))) (pv 15) (nomark _))) (fun _ _ _ _ _ => (pv 15))) (pe_lst pa_nil) (nomark _)) (pss_one (ps_ret pe_bl)) pss_nil)
      (pss_cons (ps_expr (pe_bm PySem.F.plainAttrs_list PySem.F.slot_list_append PySem.F.type_list_append mt_append (pv 13) (pa_cons pe_int pa_nil)))
      (pss_one (ps_if (pt_cmpR (op_neD hr.units) (Hw.pe_ck C_shortest_for_lines_kw (hr.mono (by decide)) (by rfl) passL (pk_cons (pv 6) pk_nil)) (pv 11) (nomark _)) (pss_one (ps_ret pe_bl)) pss_nil)))) pss_nil)))))))))))))))))
      (pss_one (ps_ret (pe_cmpR (op_eqD hr.units) (Hw.pe_cc C_shortest_for_lines (hr.mono (by decide)) (by rfl) passL (pa_cons (pe_lst (pa_cons (pe_lst (pa_cons pe_int (pa_cons pe_int pa_nil))) (pa_cons (pe_lst (pa_cons pe_int (pa_cons pe_int (pa_cons pe_int (pa_cons pe_int pa_nil))))) (pa_cons (pe_lst (pa_cons pe_int pa_nil)) pa_nil)))) pa_nil)) (pe_lst (pa_cons pe_int (pa_cons pe_int pa_nil))) (nomark _))))), ?_⟩
  obtain ⟨a, ns, rfl, hs, hl, q⟩ := h
  refine q_forR1 (n := ((max 1 (min 6 ns.length) : Nat) : Int)) (ea_cons (ev_is (ev_cb (ea_cons ev_c (ea_cons (ev_cb (ea_cons (ev_cb (ea_cons (ev_var rfl) ea_nil) (rc_lenI hs)) (ea_cons ev_c ea_nil)) rc_min2) ea_nil)) rc_max2) (by congr 1; split <;> split <;> omega)) ea_nil) (by omega)
    (fun i σ' H' => (∃ v1 v2 v3 v4 v5 v6 v7 v8 v9 v10 v11 v12 v13 v14 v15, σ' = [some (.ref a), v1, v2, v3, v4, v5, v6, v7, v8, v9, v10, v11, v12, v13, v14, v15]) ∧ Ex H H') (fun H1 e1 => ⟨⟨_, _, _, _, _, _, _, _, _, _, _, _, _, _, _, rfl⟩, e1⟩) ?_ ?_
  · rintro i σ' H' hi ⟨⟨v1, v2, v3, v4, v5, v6, v7, v8, v9, v10, v11, v12, v13, v14, v15, rfl⟩, e0⟩
    refine ⟨_, rfl, _, rfl, a, ns, i, rfl, ex_l e0 hs, by omega, by omega, fun n H1 hn e1 nb => ?_⟩
    have hn0 : H n = none := fresh_back e0 hn
    have w0 : Wn n (10 ^ 8) H H1 := ⟨hn0, e0.trans e1, nb⟩
    refine s_forR1 (n := 2) (ea_cons ev_c ea_nil) (by decide)
      (fun j σ' H' => (∃ v3 v4 v5 v6 v7 v8 v9 v10 v11 v12 v13 v14 v15, σ' = [some (.ref a), some (.int (i : Int)), some (.ref n), v3, v4, v5, v6, v7, v8, v9, v10, v11, v12, v13, v14, v15]) ∧ Wn n (10 ^ 8 - 1000 * j) H H') (fun H2 e2 => ⟨⟨_, _, _, _, _, _, _, _, _, _, _, _, _, rfl⟩, w0.step e2⟩) ?_ fun σ' H' ⟨⟨v3, v4, v5, v6, v7, v8, v9, v10, v11, v12, v13, v14, v15, hσ⟩, w⟩ => ⟨⟨_, _, _, _, _, _, _, _, _, _, _, _, _, _, _, hσ⟩, w.ex⟩
    rintro j σ' H2 hj ⟨⟨v3, v4, v5, v6, v7, v8, v9, v10, v11, v12, v13, v14, v15, rfl⟩, w2⟩
    obtain ⟨kk, hkk⟩ : ∃ kk, kk = 10 ^ 8 - 1000 * (j + 1) := ⟨_, rfl⟩
    -- chain
    refine n_asgNW (k := kk + 900 + 2 + 4 * 5 + 1) (k1 := kk + 900) (enw_chain (Pt := fun _ => True) (k := kk + 900) (most := 5) (B := 60) rfl ev_c (by decide) (en_ixD (P := fun js => js.length = 2 ∧ ∀ z ∈ js, ∃ t : Nat, z = (t : Int) ∧ 1 ≤ t ∧ t ≤ 60) (enl_lst (ena_cons (Pa := fun z => ∃ t : Nat, z = (t : Int) ∧ 1 ≤ t ∧ t ≤ 60) (Pr := fun js => js.length = 1 ∧ ∀ z ∈ js, ∃ t : Nat, z = (t : Int) ∧ 1 ≤ t ∧ t ≤ 60) (en_pure ev_c ⟨12, rfl, by decide, by decide⟩) (ena_cons (Pa := fun z => ∃ t : Nat, z = (t : Int) ∧ 1 ≤ t ∧ t ≤ 60) (Pr := fun js => js = []) (en_pure ev_c ⟨60, rfl, by decide, by decide⟩) (ena_nil rfl) cons0) consP) fun js h => by omega)
      (fun js p h hp => en_imp (en_pick (m := 2) rfl ev_c (by decide) (by decide)) fun z ⟨r, h2, h3⟩ => ⟨by omega, by rw [h.1]; omega⟩) fun js h => h.2) (by decide)) (w2.le (by omega)) ?_
    rintro ws pc H3 ⟨hws, hwl⟩ hpc hpcn w3
    have hwd : Wd ws := fun x hx => ⟨(hws x hx).1, by have := hws x hx; omega⟩
    -- many
    refine n_asg (k1 := kk + 898) (Pz := fun z => ∃ m : Nat, z = (m : Int) ∧ 2 ≤ m ∧ m ≤ 40) (en_ixD (k1 := kk + 899) (P := fun js => js.length = 2 ∧ ∀ z ∈ js, ∃ m : Nat, z = (m : Int) ∧ 2 ≤ m ∧ m ≤ 40) (enl_lst (ena_cons (k1 := kk + 899) (Pa := fun z => ∃ m : Nat, z = (m : Int) ∧ 2 ≤ m ∧ m ≤ 40) (Pr := fun js => js.length = 1 ∧ ∀ z ∈ js, ∃ m : Nat, z = (m : Int) ∧ 2 ≤ m ∧ m ≤ 40) (en_I0 (Pa := fun z => z = 2) (en_pure ev_c rfl) (en_pick (k := kk + 899) (m := 7) rfl ev_c (by decide) (by decide)) fun z z' h1 ⟨r, h2, h3⟩ => ⟨2 + r, by omega, by omega, by omega⟩) (ena_cons (Pa := fun z => ∃ m : Nat, z = (m : Int) ∧ 2 ≤ m ∧ m ≤ 40) (Pr := fun js => js = []) (en_pure ev_c ⟨40, rfl, by decide, by decide⟩) (ena_nil rfl) cons0) consP) fun js h => by omega)
      (fun js p h hp => en_imp (en_int01 (enb_and (ev_op (ev_op (ev_var rfl) (ev_var rfl) rv_addN) ev_c (rv_eq rfl)) (enb_eq (en_pick (k := kk + 898) (m := 2) rfl ev_c (by decide) (by decide)) fun _ _ => ev_c) (by omega))) fun z hz => ⟨hz.1, by rw [h.1]; omega⟩) fun js h => h.2) w3 ?_
    rintro z H4 ⟨m, rfl, hm1, hm2⟩ w4
    -- group
    refine n_asgNG (k := kk + 800 + 1 * m) (k1 := kk + 800) (eng_lcR1 (k := kk + 800) (c := 1) (m := m) (Pl := fun l => ∃ t, 1 ≤ t ∧ t ≤ 60 ∧ l = brk ws t) (ea_cons (ev_var rfl) ea_nil) (by omega) (fun _ => rfl) fun i' kk' G' hi' eG => enw_broken (B := 60) (ev_var rfl) (ex_l eG (sq_of upd_same)) hwd (by omega) (en_I0 (Pa := fun z => z = 1) (en_pure ev_c rfl) (en_pick (m := 60) rfl ev_c (by decide) (by decide)) fun z z' h1 ⟨r, h2, h3⟩ => ⟨1 + r, by omega, by omega, by omega⟩) (by decide)) (w4.le (by omega)) ?_
    rintro lss0 p as0 G2 H5 ⟨hl0, hPl⟩ eG2 g2 hfr w5
    have hPl2 : ∀ l ∈ lss0, Ln 60 l := fun l hl => by
      obtain ⟨t, h1, h2, rfl⟩ := hPl l hl
      exact ln_brk hwd h1 h2
    have hpc2 : H pc = none := hpc
    have eHG : Ex H G2 := (Ex.new hpc).trans eG2
    have fr0 : ∀ b ∈ p :: as0, H b = none := fun b hb => fresh_back (Ex.new hpc) (hfr b hb)
    -- spot, way
    have lenG : ∀ {σ : L2.St} {te : TE} {G : Hp} {as : List Addr} {lss : List (List Nat)}, Grp G p as lss → Ev te σ G (.ref p) → Ev (tCB (fun xs H Q => ∃ p ys, xs = [.ref p] ∧ (SqL K H p ys ∨ SqT K H p ys) ∧ Q (.int ys.length) H) (tCons te tNil)) σ G (.int (lss.length : Int)) := fun {σ te G as lss} g h => by
      have := ev_cb (ea_cons h ea_nil) (rc_len (sq_of g.top) (K := K))
      rw [List.length_map, g.len] at this
      exact this
    refine n_par (k1 := kk + 799) (k2 := kk + 798) (en_pick (k := kk + 799) (m := m) rfl (by rw [← hl0]; exact lenG g2 (ev_var rfl)) (by omega) (by omega)) (en_pick (k := kk + 798) (m := 3) rfl ev_c (by decide) (by decide)) w5 ?_
    rintro x y H6 ⟨sp, rfl, hsp⟩ ⟨wy, rfl, hwy⟩ w6
    -- if way == 1
    refine q_cut (M := fun σ' H' => ∃ (v9 : Option V) (as : List Addr) (lss : List (List Nat)) (G : Hp), σ' = [some (.ref a), some (.int (i : Int)), some (.ref n), some (.int (j : Int)), some (.ref pc), some (.int (m : Int)), some (.ref p), some (.int (sp : Int)), some (.int (wy : Int)), v9, v10, v11, v12, v13, v14, v15] ∧ lss.length = m ∧ (∀ l ∈ lss, Ln 60 l) ∧ Ex H G ∧ Grp G p as lss ∧ (∀ b ∈ p :: as, H b = none) ∧ Wn n (kk + 700) G H') ?_ ?_
    · refine s_when (b := decide (V.int (wy : Int) = V.int 1)) (et_test (ev_op (ev_var rfl) ev_c (rv_eq rfl))) (fun hb H7 e7 => ?_) fun hb H7 e7 => ⟨_, as0, lss0, G2, rfl, hl0, hPl2, eHG, g2, fr0, (w6.step e7).le (by omega)⟩
      refine n_setG (k := kk + 700 + 1 + 2 + 4 * 5 + 0) (k1 := kk + 700) (enw_broken2 (B := 60) (k1 := kk + 701) (Pw := fun ws => (∀ x ∈ ws, 1 ≤ x ∧ x ≤ 12) ∧ ws.length ≤ 5) (enw_chain (Pt := fun _ => True) (k := kk + 701) (most := 5) (B := 12) rfl ev_c (by decide) (en_pure ev_c ⟨12, rfl, by decide, by decide⟩) (by decide)) (fun ws h => ⟨fun x hx => ⟨(h.1 x hx).1, by have := h.1 x hx; omega⟩, by omega⟩) (fun G' eG => en_I0 (Pa := fun z => z = 1) (en_pure ev_c rfl) (en_pick (m := 60) rfl ev_c (by decide) (by decide)) fun z z' h1 ⟨r, h2, h3⟩ => ⟨1 + r, by omega, by omega, by omega⟩) (by decide)) g2 (fun _ _ => ev_var rfl) (fun _ _ => ev_var rfl) (by omega) ((w6.step e7).le (by omega)) ?_
      rintro l b H8 ⟨ws2, t, hw2, ht1, ht2, rfl⟩ hb8 w8
      have hwd2 : Wd ws2 := fun x hx => ⟨(hw2.1 x hx).1, by have := hw2.1 x hx; omega⟩
      have frp : H p = none := fr0 p List.mem_cons_self
      refine ⟨_, _, _, _, rfl, by rw [List.length_set]; exact hl0, all_set hPl2 (ln_brk hwd2 ht1 ht2), (eHG.trans (Ex.new hb8)).mut frp, g2.set hb8, fun c hc => ?_, w8⟩
      rcases List.mem_cons.mp hc with z | z
      · rw [z]; exact frp
      · rcases List.mem_or_eq_of_mem_set z with z | z
        · exact fr0 c (List.mem_cons_of_mem _ z)
        · rw [z]; exact fresh_back eHG hb8
    rintro σ' H7 ⟨v9, as, lss, G, rfl, hl1, hLn, eG, g, fr1, w7⟩
    -- if way == 2
    refine q_cut (M := fun σ' H' => ∃ (v9 : Option V) (lss : List (List Nat)) (G : Hp), σ' = [some (.ref a), some (.int (i : Int)), some (.ref n), some (.int (j : Int)), some (.ref pc), some (.int (m : Int)), some (.ref p), some (.int (sp : Int)), some (.int (wy : Int)), v9, v10, v11, v12, v13, v14, v15] ∧ lss.length = m ∧ (∀ l ∈ lss, Ln 62 l) ∧ Ex H G ∧ Grp G p as lss ∧ Wn n (kk + 600) G H') ?_ ?_
    · refine s_when (b := decide (V.int (wy : Int) = V.int 2)) (et_test (ev_op (ev_var rfl) ev_c (rv_eq rfl))) (fun hb H8 e8 => ?_) fun hb H8 e8 => ⟨_, lss, G, rfl, hl1, fun l hl => (hLn l hl).mono (by decide), eG, g, (w7.step e8).le (by omega)⟩
      have hspl : lss[sp]? = some (lss[sp]'(by omega)) := List.getElem?_eq_getElem _
      obtain ⟨l, hl2⟩ : ∃ l, l = lss[sp]'(by omega) := ⟨_, rfl⟩
      rw [← hl2] at hspl
      obtain ⟨b, hb2, hbl⟩ := g.addr hspl
      have hLl := hLn l (List.mem_of_getElem? hspl)
      have hll : 1 ≤ l.length := by
        have := hLl.2.1
        cases l with
        | nil => exact absurd rfl this
        | cons x t => simp
      have hll2 : l.length ≤ 60 := Nat.le_trans (len_le_sum hLl.1) hLl.2.2
      refine n_asg (k := kk + 700) (k1 := kk + 699) (en_pick (k := kk + 699) (m := l.length) rfl (ev_cb (ea_cons (ev_op (ev_var rfl) (ev_var rfl) (rv_grp g hb2)) ea_nil) (rc_lenN (sq_of hbl))) (by omega) (by omega)) (w7.step e8) ?_
      rintro z H9 ⟨pl, rfl, hpl⟩ w9
      have hx : l[pl]? = some (l[pl]'hpl) := List.getElem?_eq_getElem _
      obtain ⟨x, hx2⟩ : ∃ x, x = l[pl]'hpl := ⟨_, rfl⟩
      rw [← hx2] at hx
      refine n_setP (k1 := kk + 698) (Pz := fun z => ∃ y : Nat, z = (y : Int) ∧ 1 ≤ y ∧ y ≤ x + 2) (en_max2 (Pa := fun z => z = 1) (Pb := fun z => z ≤ (x : Int) + 2) (en_pure ev_c rfl) (en_I0 (k1 := kk + 698) (Pa := fun z => z ≤ (x : Int) + 4) (Pb := fun z => z = 2) (en_I0 (Pa := fun z => z = (x : Int)) (en_pure (ev_op (ev_op (ev_var rfl) (ev_var rfl) (rv_grp g hb2)) (ev_var rfl) (rv_ixL (sq_of hbl) (nl_at hx))) rfl) (en_pick (k := kk + 698) (m := 5) rfl ev_c (by decide) (by decide)) fun z z' h1 ⟨r, h2, h3⟩ => by omega) (en_pure ev_c rfl) fun z z' h1 h2 => by omega) fun z z' h1 h2 => by subst h1; have hx0 := hLl.1 x (List.mem_of_getElem? hx); exact ⟨(if z' > 1 then z' else 1).toNat, by split <;> omega, by split <;> omega, by split <;> omega⟩) hbl (ev_op (ev_var rfl) (ev_var rfl) (rv_grp g hb2)) (ev_var rfl) (by rw [nl_len]; exact hpl) w9 ?_
      rintro z H10 ⟨y, rfl, hy1, hy2⟩ w10
      rw [nl_set] at w10
      exact ⟨_, _, _, rfl, by rw [List.length_set]; exact hl1, all_set (fun l hl => (hLn l hl).mono (by decide)) (ln_set hLl hx hy1 hy2), eG.mut (fr1 b (List.mem_cons_of_mem _ (List.mem_of_getElem? hb2))), g.upd hb2, w10.le (by omega)⟩
    clear hLn eG g w7 hl1 lss G
    rintro σ' H8 ⟨v9, lss, G, rfl, hl1, hLn, eG, g0, w8⟩
    have hne : lss ≠ [] := fun z => by rw [z] at hl1; simp at hl1; omega
    have hl40 : lss.length ≤ 40 := by omega
    have hpcs : ∀ l ∈ lss, Pcs l := fun l hl => (hLn l hl).pcs (by decide)
    have hsum : ∀ l ∈ lss, l.sum ≤ 62 := fun l hl => (hLn l hl).2.2
    have g := g0.ex w8.ex
    have eH8 : Ex H H8 := eG.trans w8.ex
    have nb8 : Nb n (kk + 600) H8 := w8.nb
    obtain ⟨kept, hkept⟩ : ∃ kept, kept = (PyData.list (lss.map dN)).shown := ⟨_, rfl⟩
    have shG : Showy (PyData.list (lss.map dN)) := by
      refine (Sh.list (n := 1) (m := 62 * 9) (ds := lss.map dN) fun d hd => ?_).showy (by decide) ?_
      · obtain ⟨l, hl, rfl⟩ := List.mem_map.mp hd
        have h62 := Nat.le_trans (len_le_sum (hLn l hl).1) (hsum l hl)
        refine (Sh.list (n := 0) (m := 8) (ds := l.map fun (n : Nat) => PyData.int (n : Int)) fun d hd => ?_).mono (by decide) ?_
        · obtain ⟨x, hx, rfl⟩ := List.mem_map.mp hd
          have h1 : x ≤ 62 := Nat.le_trans (mem_le_sum hx) (hsum l hl)
          exact sh_small (by omega)
        · rw [List.length_map]
          exact Nat.mul_le_mul_right 9 h62
      · rw [List.length_map]
        have := Nat.mul_le_mul_right (62 * 9 + 1) hl40
        exact Nat.le_trans this (by decide)
    have reprG : ∀ {σ : L2.St} {te : TE} {H9 : Hp}, Ex H8 H9 → Ev te σ H9 (.ref p) → Ev (tCB (rRepr K) (tCons te tNil)) σ H9 (.str kept) := fun {σ te H9} e h => by
      rw [hkept]
      exact ev_cb (ea_cons h ea_nil) (rc_repr (g.ex e).dp shG)
    -- kept, due
    refine q_par2 (R := fun y H2 => (clash lss = none ∧ y = .non) ∨ ∃ i j pd, clash lss = some (i, j) ∧ y = .ref pd ∧ H2 pd = some (.tup [.int ((i : Nat) : Int), .int ((j : Nat) : Int)])) (reprG (Ex.refl _) (ev_var rfl)) (fun H9 e9 Q qq => ⟨_, rfl, p, as, lss, rfl, g.ex e9, by omega, fun l hl => by have := hsum l hl; omega, fun hc H10 e10 => qq _ _ e10 (.inl ⟨hc, rfl⟩), fun i j hc pd H10 hpd e10 h10 => qq _ _ e10 (.inr ⟨i, j, pd, hc, rfl, h10⟩)⟩) fun dv H9 e9 hdv => ?_
    -- longest
    obtain ⟨hli, hlget, hlsum⟩ := lng_at hne
    obtain ⟨al, hal, hhal⟩ := g.addr hlget
    obtain ⟨i0, t0, hlg0, hi0, hs0⟩ := lngs_ne hne
    have ei : lngI lss = i0 := by unfold lngI; rw [hlg0]; rfl
    rw [ei] at hal
    have hlen : (as.map V.ref).length = lss.length := by rw [List.length_map, g.len]
    refine q_asg (v := .ref al) (ev_ixNL (xs := (lngs lss).map fun i => (as.map V.ref).getD i .non) (by
        have := el_lcL (K := K) (σ := [some (.ref a), some (.int (i : Int)), some (.ref n), some (.int (j : Int)), some (.ref pc), some (.int (m : Int)), some (.ref p), some (.int (sp : Int)), some (.int (wy : Int)), v9, some (.str kept), some dv, v12, v13, v14, v15]) (H := H9) (tl := tVar 6) (j := 15) (vs := [15]) (t := tTest (tOp rEq (tCB (rSum K) (tCons (tVar 15) tNil)) (tCB (rMax K) (tCons (tLc (iList K (tVar 6)) (gName 14) tYes (tCB (rSum K) (tCons (tVar 14) tNil)) [14]) tNil)))) (te := tVar 15) (fun i => decide ((lss.getD i []).sum = mxs lss)) (fun i => (as.map V.ref).getD i .non) (ev_var rfl) (sq_of (g.ex e9).top) (by omega) (fun _ => rfl) (fun i x H1 e hx => by
          obtain ⟨b, l, rfl, hb1, hl1, hhb⟩ := g.addr' hx
          rw [List.getD_eq_getElem?_getD, hl1]
          refine et_is (et_test (ev_op (ev_cb (ea_cons (ev_var rfl) ea_nil) (rc_sumN (sq_of ((e9.trans e) _ _ hhb)))) (ev_cbL (el_sums (g.ex (e9.trans e)) (by omega) (ev_var rfl) (fun _ => rfl) (fun _ => rfl)) fun p5 H5 hp5 e5 => rc_max (sq_of hp5) (by rw [List.length_map]; omega) (mxs_max hne)) (rv_eq rfl))) ?_
          rw [dec_vint]
          rfl) (fun i x H1 e hx _ => by
          rw [List.getD_eq_getElem?_getD, hx]
          exact ev_var rfl)
        rw [hlen] at this
        exact this) (fun H1 e => ev_c) (i := 0) (by
          rw [hlg0]
          refine atI_nat (j := 0) ?_
          rw [List.map_cons, List.getElem?_cons_zero, List.getD_eq_getElem?_getD, List.getElem?_map, hal]
          rfl)) fun H10 e10 => ?_
    have e810 := e9.trans e10
    -- if due is None
    refine q_cut (M := fun σ' H' => (∃ (v9 : Option V) (pd : Addr), σ' = [some (.ref a), some (.int (i : Int)), some (.ref n), some (.int (j : Int)), some (.ref pc), some (.int (m : Int)), some (.ref p), some (.int (sp : Int)), some (.int (wy : Int)), v9, some (.str kept), some (.ref pd), some (.ref al), v13, v14, v15] ∧ H' pd = some (linesR lss).ho) ∧ Ex H8 H') ?_ ?_
    · rcases hdv with ⟨hc, rfl⟩ | ⟨ci, cj, pd, hc, rfl, hpd⟩
      · have hR : linesR lss = shortR (lng lss) := by unfold linesR; rw [hc]
        refine s_when (b := true) (et_is (et_test (ev_op (ev_var rfl) ev_c rv_isN)) (by simp)) (fun _ H11 e11 => ?_) fun hb => by cases hb
        have e811 := e810.trans e11
        have pl := hpcs _ (List.mem_of_getElem? hlget)
        refine q_asg (v := vO (obst (colF (lng lss)) (lng lss).sum)) (ev_call (ea_cons (ev_var rfl) ea_nil) (spv_retV fun H1 e1 Q E k => ⟨_, _, rfl, sq_of ((e811.trans e1) _ _ hhal), pl, k⟩)) fun H12 e12 => ?_
        refine s_asgO (R := fun y H2 => ∃ pd, y = .ref pd ∧ H2 pd = some (shortR (lng lss)).ho) (fun H13 e13 Q qq => ?_) fun y H13 e13 hy => by
          obtain ⟨pd, rfl, h13⟩ := hy
          exact ⟨⟨_, pd, rfl, by rw [hR]; exact h13⟩, (e811.trans e12).trans e13⟩
        cases ho : obst (colF (lng lss)) (lng lss).sum with
        | some nn =>
          have hS : shortR (lng lss) = .one nn := by unfold shortR; rw [ho]
          refine (et_is (b := true) (et_test (ev_op (ev_var rfl) ev_c rv_notN)) (by simp [vO]) : EvT _ _ H13 true) H13 (Ex.refl _) _ fun H14 e14 => ?_
          exact eu_tup (H := H14) (ea_cons (ev_var rfl) ea_nil) (show 1 ≤ 100000 by decide) H14 (Ex.refl _) _ fun pd H15 hpd e15 h15 => qq _ _ (e14.trans e15) ⟨pd, rfl, by rw [hS]; exact h15⟩
        | none =>
          have hS : shortR (lng lss) = .lst (desc (colF (lng lss)) (lng lss).sum) := by unfold shortR; rw [ho]
          refine (et_is (b := false) (et_test (ev_op (ev_var rfl) ev_c rv_notN)) (by simp [vO]) : EvT _ _ H13 false) H13 (Ex.refl _) _ fun H14 e14 => ?_
          exact ⟨_, rfl, al, lng lss, rfl, sq_of ((((e811.trans e12).trans e13).trans e14) _ _ hhal), pl, fun _ pd H15 hpd e15 h15 => qq _ _ (e14.trans e15) ⟨pd, rfl, by rw [hS]; exact h15⟩, fun nn hn2 => by rw [ho] at hn2; cases hn2⟩
      · have hR : linesR lss = .two ci cj := by unfold linesR; rw [hc]
        refine s_when (b := false) (et_is (et_test (ev_op (ev_var rfl) ev_c rv_isN)) (by simp)) (fun hb => by cases hb) fun _ H11 e11 => ⟨⟨_, pd, rfl, by rw [hR]; exact (e10.trans e11) _ _ hpd⟩, e810.trans e11⟩
    rintro σ' H11 ⟨⟨v9', pd, rfl, hpd⟩, e11⟩
    have sm := lines_small hne (by omega) hpcs fun l hl => by have := hsum l hl; omega
    have shR := sh_res sm
    -- told
    refine q_asgO (o := (linesR lss).ho) (fun H12 e12 Q qq => ⟨_, rfl, p, as, lss, rfl, g.ex (e11.trans e12), hne, hl40, hpcs, qq⟩) fun pt H12 hpt e12 h12 => ?_
    have e812 := e11.trans e12
    refine q_when (b := false) (et_or (a := false) (b := false) (et_reprNe (x := (linesR lss).dat.shown) (ev_cb (ea_cons (ev_var rfl) ea_nil) (rc_repr (dp_res h12) shR)) (ev_cb (ea_cons (ev_var rfl) ea_nil) (rc_repr (dp_res (e12 _ _ hpd)) shR))) fun _ => et_reprNe (reprG e812 (ev_var rfl)) (ev_var rfl)) (fun hb => by cases hb) fun _ H13 e13 => ?_
    have e813 := e812.trans e13
    have fin : ∀ {H' : Hp}, Ex H H' → Nb n (kk + 600) H' → Wn n (10 ^ 8 - 1000 * (j + 1)) H H' := fun e b => ⟨hn0, e, by rw [← hkk]; exact b.le (by omega)⟩
    cases hr : linesR lss with
    | one nn =>
      rw [hr] at h12
      exact s_when (b := false) (et_B (ev_cb (ea_cons (ev_var rfl) (ea_cons ev_c ea_nil)) (rc_isi_t (e13 _ _ h12) (by decide +kernel)))) (fun hb => by cases hb) fun _ H14 e14 => ⟨⟨_, _, _, _, _, _, _, _, _, _, _, _, _, rfl⟩, fin (eH8.trans (e813.trans e14)) (nb8.ex (e813.trans e14))⟩
    | two ci cj =>
      rw [hr] at h12
      exact s_when (b := false) (et_B (ev_cb (ea_cons (ev_var rfl) (ea_cons ev_c ea_nil)) (rc_isi_t (e13 _ _ h12) (by decide +kernel)))) (fun hb => by cases hb) fun _ H14 e14 => ⟨⟨_, _, _, _, _, _, _, _, _, _, _, _, _, rfl⟩, fin (eH8.trans (e813.trans e14)) (nb8.ex (e813.trans e14))⟩
    | lst dl =>
      rw [hr] at h12 hpd sm
      have hcl : clash lss = none := by
        unfold linesR at hr
        cases hc : clash lss with
        | none => rfl
        | some ij => rw [hc] at hr; cases hr
      have hob : obst (colF (lng lss)) (lng lss).sum = none ∧ dl = desc (colF (lng lss)) (lng lss).sum := by
        unfold linesR shortR at hr
        rw [hcl] at hr
        cases ho : obst (colF (lng lss)) (lng lss).sum with
        | none =>
          have hr2 : (match obst (colF (lng lss)) (lng lss).sum with | some n => Res.one n | none => Res.lst (desc (colF (lng lss)) (lng lss).sum)) = Res.lst dl := hr
          rw [ho] at hr2
          exact ⟨rfl, by cases hr2; rfl⟩
        | some nn =>
          have hr2 : (match obst (colF (lng lss)) (lng lss).sum with | some n => Res.one n | none => Res.lst (desc (colF (lng lss)) (lng lss).sum)) = Res.lst dl := hr
          rw [ho] at hr2
          cases hr2
      have hbrk : ∀ l ∈ lss, brk dl l.sum = l := fun l hl => by
        rw [hob.2]
        exact group_brk hne (fun l hl => ⟨(hLn l hl).1, (hLn l hl).2.1⟩) hcl hob.1 hl
      have hdw : Wd dl := fun x hx => by
        rw [hob.2] at hx
        have h1 := desc_mem _ hx
        have h2 := hsum _ (List.mem_of_getElem? hlget)
        omega
      have hdl : dl.length ≤ 600 := sm.1
      have h12t := e13 _ _ h12
      have neT : pd ≠ pt := ne_of_none hpd hpt
      refine s_when (b := true) (et_B (ev_cb (ea_cons (ev_var rfl) (ea_cons ev_c ea_nil)) (rc_isi_l (sq_of h12t) (by decide +kernel)))) (fun _ H14 e14 => ?_) fun hb => by cases hb
      have e814 := e813.trans e14
      refine q_when (b := false) (et_is (et_test (ev_opLL (el_lcL (K := K) (fun _ => false) (fun _ => .non) (ev_var rfl) (sq_of (g.ex e814).top) (by omega) (fun _ => rfl) (fun i x H1 e hx => ?_) fun i x H1 e hx hb => by cases hb) (el_lst ea_nil (by decide)) fun pa pb Hx ha hb _ => by
          have ha2 : Hx pa = some (.lst (nl [])) := by
            rw [ha]
            unfold given
            rw [List.filter_eq_nil_iff.mpr (by simp)]
            rfl
          exact rv_neD (dp_nl (sq_of ha2)) (dp_nl (ws := []) (sq_of hb)) (shaped_dN _) (shaped_dN _))) (by rw [eqv_dN]; rfl)) (fun hb => by cases hb) fun _ H15 e15 => ?_
      · obtain ⟨b, l, rfl, hb1, hl1, hhb⟩ := g.addr' hx
        have hlm := List.mem_of_getElem? hl1
        refine et_is (et_test (ev_opL1 (el_call (ea_cons (ev_var rfl) (ea_cons (ev_cb (ea_cons (ev_var rfl) ea_nil) (rc_sumN (sq_of ((e814.trans e) _ _ hhb)))) ea_nil)) (spl_retL fun H4 e4 Q E k => ⟨_, _, _, rfl, sq_of (((e14.trans e).trans e4) _ _ h12t), hdw, by omega, by have := hsum l hlm; omega, k⟩)) (fun _ _ => ev_var rfl) fun pa Hx ha ex => rv_neD (dp_nl (sq_of ha)) (dp_nl (sq_of ((e814.trans (e.trans ex)) _ _ hhb))) (shaped_dN _) (shaped_dN _))) ?_
        rw [eqv_dN, hbrk l hlm]
        simp
      have e815 := e814.trans e15
      have h15 := (e14.trans e15) _ _ h12t
      refine q_app (xs := nl dl) (v := .int 1) h15 (ev_var rfl) ev_c (by rw [nl_len]; omega) fun H16 e16 => ?_
      have hptH : H pt = none := fresh_back (eH8.trans e11) hpt
      have hpt8 : H8 pt = none := fresh_back e11 hpt
      have e816 : Ex H8 (upd H16 pt (.lst (nl dl ++ [.int 1]))) := (e815.trans e16).mut hpt8
      have hpd16 : (upd H16 pt (.lst (nl dl ++ [.int 1]))) pd = some (.lst (nl dl)) := by
        rw [upd_ne neT]
        exact ((((e12.trans e13).trans e14).trans e15).trans e16) _ _ hpd
      refine s_when (b := false) (et_is (et_test (ev_opL1 (el_callN0 (ys := nl dl) (ea_cons (ev_var rfl) ea_nil) rfl (spl_retL fun H4 e4 Q E k => ⟨p, as, lss, rfl, g.ex (e816.trans e4), hne, hl40, hpcs, fun _ => ⟨fun _ => by rw [← hob.2]; exact k, fun nn hn2 => by rw [hob.1] at hn2; cases hn2⟩, fun ci cj hc2 => by rw [hcl] at hc2; cases hc2⟩)) (fun _ _ => ev_var rfl) fun pa Hx ha ex => rv_neD (dp_nl (sq_of ha)) (dp_nl (sq_of (ex _ _ hpd16))) (shaped_dN _) (shaped_dN _))) (by rw [eqv_dN]; simp)) (fun hb => by cases hb) fun _ H17 e17 => ?_
      exact ⟨⟨_, _, _, _, _, _, _, _, _, _, _, _, _, rfl⟩, fin (eH8.trans (e816.trans e17)) (nb8.ex (e816.trans e17))⟩
  · rintro σ' H' ⟨⟨v1, v2, v3, v4, v5, v6, v7, v8, v9, v10, v11, v12, v13, v14, v15, rfl⟩, e0⟩
    refine s_ret (v := .bl true) (ev_is (ev_opLL (el_callG (ys := nl [5, 3]) (eg_lst3 (l1 := [3, 1]) (l2 := [3, 2, 3, 2]) (l3 := [2]) (el_lst (ea_cons ev_c (ea_cons ev_c ea_nil)) (show 2 ≤ 100000 by decide)) (el_lst (ea_cons ev_c (ea_cons ev_c (ea_cons ev_c (ea_cons ev_c ea_nil)))) (show 4 ≤ 100000 by decide)) (el_lst (ea_cons ev_c ea_nil) (show 1 ≤ 100000 by decide))) fun p as H1 g e => spl_retL fun H4 e4 Q E k => ⟨p, as, _, rfl, g.ex e4, by simp, by decide, last_pcs, fun _ => ⟨fun _ => by rw [last_desc]; exact k, fun nn hn2 => by rw [last_obst] at hn2; cases hn2⟩, fun ci cj hc2 => by rw [last_clash] at hc2; cases hc2⟩) (el_lst (ea_cons ev_c (ea_cons ev_c ea_nil)) (show 2 ≤ 100000 by decide)) fun pa pb Hx ha hb _ => rv_eqD (dp_nl (sq_of ha)) (dp_nl (ws := [5, 3]) (sq_of hb)) (shaped_dN _) (shaped_dN _)) (by rw [eqv_dN]; rfl)) fun H2 e2 => q H2
end

def d_is_integer : He.DefD := ⟨("is_integer", none), "is_integer", "is_integer", defArgs s_is_integer, defBody s_is_integer, defScope s_is_integer, [], []⟩
def d_border_lengths : He.DefD := ⟨("border_lengths", none), "border_lengths", "border_lengths", defArgs s_border_lengths, defBody s_border_lengths, defScope s_border_lengths, [], []⟩
def d_descent_of : He.DefD := ⟨("descent_of", none), "descent_of", "descent_of", defArgs s_descent_of, defBody s_descent_of, defScope s_descent_of, [], []⟩
def d_is_pieces : He.DefD := ⟨("is_pieces", none), "is_pieces", "is_pieces", defArgs s_is_pieces, defBody s_is_pieces, defScope s_is_pieces, [], []⟩
def d_require_pieces : He.DefD := ⟨("require_pieces", none), "require_pieces", "require_pieces", defArgs s_require_pieces, defBody s_require_pieces, defScope s_require_pieces, [], []⟩
def d_columns_of : He.DefD := ⟨("columns_of", none), "columns_of", "columns_of", defArgs s_columns_of, defBody s_columns_of, defScope s_columns_of, [], []⟩
def d_first_piece_of : He.DefD := ⟨("first_piece_of", none), "first_piece_of", "first_piece_of", defArgs s_first_piece_of, defBody s_first_piece_of, defScope s_first_piece_of, [], []⟩
def d_first_obstacle_of : He.DefD := ⟨("first_obstacle_of", none), "first_obstacle_of", "first_obstacle_of", defArgs s_first_obstacle_of, defBody s_first_obstacle_of, defScope s_first_obstacle_of, [], []⟩
def d_first_obstacle : He.DefD := ⟨("first_obstacle", none), "first_obstacle", "first_obstacle", defArgs s_first_obstacle, defBody s_first_obstacle, defScope s_first_obstacle, [], []⟩
def d_shortest_widths : He.DefD := ⟨("shortest_widths", none), "shortest_widths", "shortest_widths", defArgs s_shortest_widths, defBody s_shortest_widths, defScope s_shortest_widths, [], []⟩
def d_do_agree : He.DefD := ⟨("do_agree", none), "do_agree", "do_agree", defArgs s_do_agree, defBody s_do_agree, defScope s_do_agree, [], []⟩
def d_shortest_for_lines : He.DefD := ⟨("shortest_for_lines", none), "shortest_for_lines", "shortest_for_lines", defArgs s_shortest_for_lines, defBody s_shortest_for_lines, defScope s_shortest_for_lines, [], []⟩
def d__law_bag : He.DefD := ⟨("_law_bag", none), "_law_bag", "_law_bag", defArgs s__law_bag, defBody s__law_bag, defScope s__law_bag, [], []⟩
def d__law_take : He.DefD := ⟨("_law_take", none), "_law_take", "_law_take", defArgs s__law_take, defBody s__law_take, defScope s__law_take, [], []⟩
def d__law_chain : He.DefD := ⟨("_law_chain", none), "_law_chain", "_law_chain", defArgs s__law_chain, defBody s__law_chain, defScope s__law_chain, [], []⟩
def d__law_broken : He.DefD := ⟨("_law_broken", none), "_law_broken", "_law_broken", defArgs s__law_broken, defBody s__law_broken, defScope s__law_broken, [], []⟩
def d__law_cols : He.DefD := ⟨("_law_cols", none), "_law_cols", "_law_cols", defArgs s__law_cols, defBody s__law_cols, defScope s__law_cols, [], []⟩
def d__law_clash : He.DefD := ⟨("_law_clash", none), "_law_clash", "_law_clash", defArgs s__law_clash, defBody s__law_clash, defScope s__law_clash, [], []⟩
def d__law_told : He.DefD := ⟨("_law_told", none), "_law_told", "_law_told", defArgs s__law_told, defBody s__law_told, defScope s__law_told, [], []⟩
def d_law : He.DefD := ⟨("law", none), "law", "law", defArgs s_law, defBody s_law, defScope s_law, [], []⟩
def d_NotWrapped___init__ : He.DefD := ⟨("NotWrapped", some "__init__"), "__init__", "NotWrapped.__init__", defArgs s_NotWrapped___init__, defBody s_NotWrapped___init__, defScope s_NotWrapped___init__, [], []⟩
def d_Conflict___init__ : He.DefD := ⟨("Conflict", some "__init__"), "__init__", "Conflict.__init__", defArgs s_Conflict___init__, defBody s_Conflict___init__, defScope s_Conflict___init__, [], []⟩
def fnL : List He.DefD := [d_is_integer, d_border_lengths, d_descent_of, d_is_pieces, d_require_pieces, d_columns_of, d_first_piece_of, d_first_obstacle_of, d_first_obstacle, d_shortest_widths, d_do_agree, d_shortest_for_lines, d__law_bag, d__law_take, d__law_chain, d__law_broken, d__law_cols, d__law_clash, d__law_told, d_law, d_NotWrapped___init__, d_Conflict___init__]
def faL : List He.Fa := [.glo "is_integer", .glo "border_lengths", .glo "descent_of", .glo "is_pieces", .glo "require_pieces", .glo "columns_of", .glo "first_piece_of", .glo "first_obstacle_of", .glo "first_obstacle", .glo "shortest_widths", .glo "do_agree", .glo "shortest_for_lines", .glo "_law_bag", .glo "_law_take", .glo "_law_chain", .glo "_law_broken", .glo "_law_cols", .glo "_law_clash", .glo "_law_told", .glo "law", .int "MAX_PIECES" 400, .int "MAX_CHARACTERS" 10000, .int "MAX_LINES" 40, .glo "WrapError", .glo "InvalidPieces", .glo "NotWrapped", .glo "Conflict", .free "len", .free "range", .free "isinstance", .free "int", .free "list", .free "bool", .free "all", .free "sum", .free "max", .free "min", .free "abs", .free "enumerate", .free "divmod", .free "repr", .free "ValueError", .exc "InvalidPieces", .meth "NotWrapped" "__init__", .noat "NotWrapped" "position", .meth "Conflict" "__init__", .noat "Conflict" "first", .noat "Conflict" "second", .exm "InvalidPieces" "Conflict" false, .exm "InvalidPieces" "NotWrapped" false, .exm "NotWrapped" "Conflict" false, .exm "NotWrapped" "NotWrapped" true, .exm "Conflict" "Conflict" true, .exm "Conflict" "NotWrapped" false]
abbrev RR : PySem.W.OpenRow := PySem.W.OpenLaw.row PySem.Challenge.rw_hardwraps_k42_lines_read_together
def oxL : List PySem.Str := ["NotWrapped", "Conflict"]
abbrev hkL : PySem.W.Hook := Hw.hookX 4 faL fnL oxL
def obL (s : PySem.W.SharedT) : He.AlD := Hw.obsXG 4 faL fnL oxL (HandSHeadRun.getT s)
theorem obL_eq (s : PySem.W.SharedT) : obL s = hkL.obs s.abs := Hw.obsXG_eq (HandSHeadRun.getT_eq s)
def looseL : List PySem.Str := (["WrapError", "InvalidPieces", "NotWrapped", "Conflict", "is_integer", "border_lengths", "descent_of", "MAX_PIECES", "MAX_CHARACTERS", "MAX_LINES", "is_pieces", "require_pieces", "columns_of", "first_piece_of", "first_obstacle_of", "first_obstacle", "shortest_widths", "do_agree", "shortest_for_lines", "_law_bag", "_law_take", "_law_chain", "_law_broken", "_law_cols", "_law_clash", "_law_told"] : List PySem.Str)
theorem runL (w : World) : HandSHeadRun.RunEq RR (PySem.W.view RR.prog [32]) hkL obL 3000 looseL w := by
  intro os
  kernel_rfl
theorem env_of {K : PySem.W.Frag} {h : Heap} {mg : Str → Option Value} (X : K.In h) (G : h.Ns mainGlobals mg) (c0 : He.SaysD faL fnL K ∧ ∀ x ∈ oxL, Hw.oexB K (He.ga K x) = true) : Env K mg where
  g_is_integer := He.glo_ok X G (c0.1.fact 0 rfl)
  g_border_lengths := He.glo_ok X G (c0.1.fact 1 rfl)
  g_descent_of := He.glo_ok X G (c0.1.fact 2 rfl)
  g_is_pieces := He.glo_ok X G (c0.1.fact 3 rfl)
  g_require_pieces := He.glo_ok X G (c0.1.fact 4 rfl)
  g_columns_of := He.glo_ok X G (c0.1.fact 5 rfl)
  g_first_piece_of := He.glo_ok X G (c0.1.fact 6 rfl)
  g_first_obstacle_of := He.glo_ok X G (c0.1.fact 7 rfl)
  g_first_obstacle := He.glo_ok X G (c0.1.fact 8 rfl)
  g_shortest_widths := He.glo_ok X G (c0.1.fact 9 rfl)
  g_do_agree := He.glo_ok X G (c0.1.fact 10 rfl)
  g_shortest_for_lines := He.glo_ok X G (c0.1.fact 11 rfl)
  g__law_bag := He.glo_ok X G (c0.1.fact 12 rfl)
  g__law_take := He.glo_ok X G (c0.1.fact 13 rfl)
  g__law_chain := He.glo_ok X G (c0.1.fact 14 rfl)
  g__law_broken := He.glo_ok X G (c0.1.fact 15 rfl)
  g__law_cols := He.glo_ok X G (c0.1.fact 16 rfl)
  g__law_clash := He.glo_ok X G (c0.1.fact 17 rfl)
  g__law_told := He.glo_ok X G (c0.1.fact 18 rfl)
  g_law := He.glo_ok X G (c0.1.fact 19 rfl)
  c_MAX_PIECES := He.int_ok X G (c0.1.fact 20 rfl)
  c_MAX_CHARACTERS := He.int_ok X G (c0.1.fact 21 rfl)
  c_MAX_LINES := He.int_ok X G (c0.1.fact 22 rfl)
  g_WrapError := He.glo_ok X G (c0.1.fact 23 rfl)
  g_InvalidPieces := He.glo_ok X G (c0.1.fact 24 rfl)
  g_NotWrapped := He.glo_ok X G (c0.1.fact 25 rfl)
  g_Conflict := He.glo_ok X G (c0.1.fact 26 rfl)
  n_len := He.free_ok X G (c0.1.fact 27 rfl)
  n_range := He.free_ok X G (c0.1.fact 28 rfl)
  n_isinstance := He.free_ok X G (c0.1.fact 29 rfl)
  n_int := He.free_ok X G (c0.1.fact 30 rfl)
  n_list := He.free_ok X G (c0.1.fact 31 rfl)
  n_bool := He.free_ok X G (c0.1.fact 32 rfl)
  n_all := He.free_ok X G (c0.1.fact 33 rfl)
  n_sum := He.free_ok X G (c0.1.fact 34 rfl)
  n_max := He.free_ok X G (c0.1.fact 35 rfl)
  n_min := He.free_ok X G (c0.1.fact 36 rfl)
  n_abs := He.free_ok X G (c0.1.fact 37 rfl)
  n_enumerate := He.free_ok X G (c0.1.fact 38 rfl)
  n_divmod := He.free_ok X G (c0.1.fact 39 rfl)
  n_repr := He.free_ok X G (c0.1.fact 40 rfl)
  n_ValueError := He.free_ok X G (c0.1.fact 41 rfl)
  x_InvalidPieces := He.exc_ok (c0.1.fact 42 rfl)
  m_NotWrapped___init__ := He.meth_ok (c0.1.fact 43 rfl)
  a_NotWrapped_position := He.noat_ok (c0.1.fact 44 rfl)
  m_Conflict___init__ := He.meth_ok (c0.1.fact 45 rfl)
  a_Conflict_first := He.noat_ok (c0.1.fact 46 rfl)
  a_Conflict_second := He.noat_ok (c0.1.fact 47 rfl)
  e_InvalidPieces_Conflict := He.exm_ok (c0.1.fact 48 rfl)
  e_InvalidPieces_NotWrapped := He.exm_ok (c0.1.fact 49 rfl)
  e_NotWrapped_Conflict := He.exm_ok (c0.1.fact 50 rfl)
  e_NotWrapped_NotWrapped := He.exm_ok (c0.1.fact 51 rfl)
  e_Conflict_Conflict := He.exm_ok (c0.1.fact 52 rfl)
  e_Conflict_NotWrapped := He.exm_ok (c0.1.fact 53 rfl)
  d_is_integer := c0.1.def_ 0 (d := d_is_integer) rfl
  d_border_lengths := c0.1.def_ 1 (d := d_border_lengths) rfl
  d_descent_of := c0.1.def_ 2 (d := d_descent_of) rfl
  d_is_pieces := c0.1.def_ 3 (d := d_is_pieces) rfl
  d_require_pieces := c0.1.def_ 4 (d := d_require_pieces) rfl
  d_columns_of := c0.1.def_ 5 (d := d_columns_of) rfl
  d_first_piece_of := c0.1.def_ 6 (d := d_first_piece_of) rfl
  d_first_obstacle_of := c0.1.def_ 7 (d := d_first_obstacle_of) rfl
  d_first_obstacle := c0.1.def_ 8 (d := d_first_obstacle) rfl
  d_shortest_widths := c0.1.def_ 9 (d := d_shortest_widths) rfl
  d_do_agree := c0.1.def_ 10 (d := d_do_agree) rfl
  d_shortest_for_lines := c0.1.def_ 11 (d := d_shortest_for_lines) rfl
  d__law_bag := c0.1.def_ 12 (d := d__law_bag) rfl
  d__law_take := c0.1.def_ 13 (d := d__law_take) rfl
  d__law_chain := c0.1.def_ 14 (d := d__law_chain) rfl
  d__law_broken := c0.1.def_ 15 (d := d__law_broken) rfl
  d__law_cols := c0.1.def_ 16 (d := d__law_cols) rfl
  d__law_clash := c0.1.def_ 17 (d := d__law_clash) rfl
  d__law_told := c0.1.def_ 18 (d := d__law_told) rfl
  d_law := c0.1.def_ 19 (d := d_law) rfl
  d_NotWrapped___init__ := c0.1.def_ 20 (d := d_NotWrapped___init__) rfl
  d_Conflict___init__ := c0.1.def_ 21 (d := d_Conflict___init__) rfl
  o_NotWrapped := Hw.oexB_ok (c0.2 "NotWrapped" (by decide +kernel))
  o_Conflict := Hw.oexB_ok (c0.2 "Conflict" (by decide +kernel))

/-- the end -/
theorem law_holds : PySem.Challenge.rw_hardwraps_k42_lines_read_together.Holds := by
  w_on; o_law
  refine HandSHeadRun.head_any (r := RR) (q := PySem.W.view RR.prog [32]) (H := hkL) (ob := obL) (M := 3000) (loose := looseL)
    (d := HandSHeadRun.topDef RR.prog 32) (kwd := []) obL_eq
    (by kernel_rfl) (fun s => by kernel_rfl) runL (by kernel_rfl) (by kernel_rfl) (by kernel_rfl) (by rfl)
    (by first | assumption | decide +kernel) (by decide +kernel) ⟨rfl, rfl, rfl, rfl, rfl, by decide +kernel⟩ ?hw ?hc
  case hw => w_witness2
  case hc =>
    refine Hw.walkG (l := PySem.Challenge.rw_hardwraps_k42_lines_read_together) (n := 63) (k := 7) (x := "script") (CX := fun _ => CX0) rfl (by decide) (by kernel_rfl)
      ⟨rfl, by decide, by decide⟩ ?F (fun _ _ _ _ _ z => z)
    intro w mg fa h Y G hmg0
    obtain ⟨K, KX, c⟩ := Y
    have T := env_of KX G c
    have hmg : mg ("law" : Str) = some (.ref fa) := by
      have e : (HandSHeadRun.topDef RR.prog 32).name = ("law" : Str) := by kernel_rfl
      rw [← e]
      exact hmg0
    obtain ⟨fd, F⟩ := T.d_law
    have ef : fa = He.ga K "law" := by
      have := hmg.symm.trans T.g_law
      cases this
      rfl
    subst ef
    have b := FunD.bindsA (ps := ["script"]) F fun _ _ _ _ _ _ us hl => match us, hl with | [_], _ => rfl
    exact ⟨K, fd, sp_law K, KX, fun s v => b s [v] rfl, fun H a ns hl hb _ hS => ⟨a, ns, rfl, hS, hl, fun _ => rfl⟩, fun base _ _ => ok_law T F⟩

end Lw
set_option maxRecDepth 100000 in
set_option maxHeartbeats 0 in
theorem PySem.Challenge.cw_hardwraps_k42_lines_read_together_holds : PySem.Challenge.rw_hardwraps_k42_lines_read_together.Holds := by
  exact Lw.law_holds
#print axioms PySem.Challenge.cw_hardwraps_k42_lines_read_together_holds
