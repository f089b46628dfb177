import PyProof.Rows.All
import Wide.All
import OpenK.AllK
import Wide.FinOn
import PyProof.ReprRoads
import PyProof.CallFns
import HandS.ForMost
import HandS.Evl
import HandS.Wide
import HandS.Defaults
import HandS.IsInst
import HandS.HeadHook2
import HandS.EndBits
import KE.KStateDown
import HandS.Head0
import HandS.Head1
import HandS.Head2
import HandS.HeadHook1
import PySem.Challenge.RW_hardwraps_k14_overlaps
set_option Elab.async false
set_option linter.all false
set_option maxRecDepth 100000
set_option maxHeartbeats 4000000
/-! Rules that the layer lacks: wide powers, repr of data (where the guards are known), calls by keywords alone, defs that run where no guard stands. -/
namespace Hw
open PySem PySem.Spec PyProof.Rows L2

/-! ### powers -/
def CPowW (i j : Int) : Prop := 0 ≤ j ∧ (Builtin.Int.intBits i : Int) * j ≤ 2 ^ 27
theorem op_powW {X : Cx} : OpR X (binaryOp .Pow) (rI CPowW fun i j => .int (i ^ j.toNat)) :=
  opI fun _ _ _ _ _ _ _ hc q => pow_int hc.1 hc.2 q
theorem bits_le {i : Int} {n : Nat} (h : i.natAbs < 2 ^ n) (hn : 0 < n) : Builtin.Int.intBits i ≤ n := by
  unfold Builtin.Int.intBits
  split
  · omega
  · rename_i hz
    have h0 : i.natAbs ≠ 0 := by
      intro e
      apply hz
      have : i = 0 := by omega
      subst this
      rfl
    have := (Nat.log2_lt h0).mpr h
    omega
theorem cpow {i : Int} {n k : Nat} (h : i.natAbs < 2 ^ n) (hn : 0 < n) (hk : n * k ≤ 2 ^ 27) : CPowW i (k : Int) := by
  refine ⟨by omega, ?_⟩
  have h1 := bits_le h hn
  have h2 : Builtin.Int.intBits i * k ≤ n * k := Nat.mul_le_mul_right k h1
  have h3 : Builtin.Int.intBits i * k ≤ 2 ^ 27 := Nat.le_trans h2 hk
  exact_mod_cast h3

/-! ### a def, run where no guard stands -/
/-- as FnOk, for calls whose surroundings hold no guard (repr asks that) -/
structure FnG (P : Program) (w : World) (K : PySem.W.Frag) (mg : Str → Option Value)
    (base : Heap) (CX : CXT) (k : Nat) (f : Addr) (fd : FuncData) (ps : List Str) (sp : Sp) : Prop where
  len : ∀ vs H Q E, sp vs H Q E → vs.length = ps.length
  run : ∀ (A : Around) (outer : List Env) (s : Shared) (H : Hp) (args : Args)
    (us : List Value) (vs : List V) (Q : VK) (E : XK), A.guards = some [] → Room k A →
    Env0 P w K mg base A outer s H → BindsTo s fd args (ps.zip us) → Vals vs us → sp vs H Q E →
    codeAny (model P w) A (.call (.ref f) args) (CR CX outer P w H s Q E) s
section
variable {P : Program} {w : World} {K : PySem.W.Frag} {mg : Str → Option Value} {base : Heap} {CX : CXT}
variable {k : Nat} {f : Addr} {fd : FuncData} {ps : List Str} {sp : Sp}
theorem FnG.of (F : FnOk P w K mg base CX k f fd ps sp) : FnG P w K mg base CX k f fd ps sp :=
  ⟨F.len, fun A outer s H args us vs Q E _ => F.run A outer s H args us vs Q E⟩
theorem fnG_of {name qual : Str} {params : Arguments} {body : List Stmt} {scope : Scope}
    {dV kV doc pm cdv ct oc : Value} {an od : Option Addr} {osl : Array (Option Value)} {N : List Str}
    (lk : K.lookup f = some ⟨oc, od, .func (PySem.W.fnOf name qual params body scope dV kV doc pm an cdv ct), osl⟩)
    (hcd : PySem.W.codeIn K cdv qual = true) (S : FnScope N ps scope)
    (len : ∀ vs H Q E, sp vs H Q E → vs.length = ps.length)
    (hb : ∀ (A : Around) (outer : List Env) (s : Shared) (H : Hp) (vs : List V) (Q : VK) (E : XK), A.guards = some [] →
      Room k (A.deeper (envOfC qual scope s.heap.objs.size f cdv)) → sp vs H Q E →
      ∃ t, PSs (cxOf CX P w K mg base N qual scope f cdv A outer s H E) body t ∧
        t { nx := fun _ H' => Q .non H', rt := Q } (start N vs) H) :
    FnG P w K mg base CX (k + 1) f (PySem.W.fnOf name qual params body scope dV kV doc pm an cdv ct) ps sp := by
  constructor
  · exact len
  intro A outer s H args us vs Q E hga hr e0 hbi r hq
  have lv := len _ _ _ _ hq
  have kin : K.In s.heap := e0.mod.kin.keeps fun b o e => (e0.bs b o e).1
  have nolim : s.heap.NoLimit := e0.mod.nolimit.keeps fun b o e => (e0.bs b o e).1
  have kinds : ∀ y ∈ ps.zip us, scope.names.lookup y.1 = some .local ∨
      (scope.names.lookup y.1 = some .cell ∧
        ((cellsFrom (s.heap.objs.size + 1) scope.names []).lookup y.1).isSome = true) := by
    rintro ⟨n, v⟩ hy
    rcases S.par n (List.of_mem_zip hy).1 with q | q
    · exact .inl q
    · exact .inr ⟨q, PySem.W.cellsFrom_some _ _ _ (.inl q)⟩
  refine codeAny_call_function hr.depth (kin _ _ lk) rfl S.co S.gen rfl
    (PySem.W.codeRec_of kin hcd) (hbi _ _ _ _ ?_)
  refine wpAny_newFunctionEnv_cells S.kind kinds fun env he s1 x => ?_
  subst he
  refine ⟨nolim.keeps x.toInCall.keep, codeAny_func ?_⟩
  obtain ⟨t, ht, q0⟩ := hb A outer s H vs Q E hga (hr.deeper _) hq
  have I := inv_start (CX := CX) (P := P) (w := w) (K := K) (mg := mg) (base := base) (cd := cdv)
    (f := f) (qual := qual) (E := E) S hr.hd e0 lv r x
  refine wpAny_mono (ht.run [] s1 (start N vs) H _ I q0) (fun fl s' hs => ?_) fun e s' hs => hs
  cases fl with
  | ret u =>
    obtain ⟨v, σ', H', J, rv, q⟩ := hs
    exact ⟨v, H', J.os, J.bare, J.base, J.hok, rv, q⟩
  | next =>
    obtain ⟨σ', H', J, q⟩ := hs
    exact ⟨V.non, H', J.os, J.bare, J.base, J.hok, rfl, q⟩
  | brk => exact False.elim hs.choose_spec.choose_spec.2
  | cont => exact False.elim hs.choose_spec.choose_spec.2
theorem okG {x qual : Str} {params : Arguments} {body : List Stmt} {scope : Scope} {dvs : List V} {kws : List (Str × V)} {N : List Str}
    (F : FunD K x qual params body scope dvs kws f fd) (S : FnScope N ps scope)
    (len : ∀ vs H Q E, sp vs H Q E → vs.length = ps.length)
    (hb : ∀ (cdv : Value) (A : Around) (outer : List Env) (s : Shared) (H : Hp) (vs : List V) (Q : VK) (E : XK), A.guards = some [] →
      Room k (A.deeper (envOfC qual scope s.heap.objs.size f cdv)) → sp vs H Q E →
      ∃ t, PSs (cxOf CX P w K mg base N qual scope f cdv A outer s H E) body t ∧
        t { nx := fun _ H' => Q .non H', rt := Q } (start N vs) H) :
    FnG P w K mg base CX (k + 1) f fd ps sp := by
  obtain ⟨oc, od, dV, kV, doc, pm, an, cdv, ct, osl, rfl, lk, hcd, _, _⟩ := F.ex
  exact fnG_of lk hcd S len fun A outer s H vs Q E hg hr hq => hb cdv A outer s H vs Q E hg hr hq
end

/-! ### calls of such defs -/
section
variable {X : Cx} {CX : CXT} {k n : Nat} {f : Addr} {fd : FuncData} {ps ks : List Str} {sp : Sp} {dvs : List V} {ds : List Value} {E : XK}
variable {x : Str} {p pos : Pos} {e : Expr} {es : List Expr} {kws : List Keyword} {t tk : TA}
variable {g : List Value → List Value → List Value} {gV : List V → List V → List V}
theorem run_G {pins : List (Addr × Obj)} {σ : L2.St} {H : Hp} {s : Shared} {Q : VK} {us : List Value} {vs : List V}
    (hgd : X.A.guards = some []) (F : FnG X.prog X.w X.K X.mg X.base CX k f fd ps sp) (hr : Room k X.A)
    (hb : Binds X.K fd ps ds) (hd : Vals dvs ds) (hx : Passes CX X E)
    (I : Inv X pins σ H s) (r : Vals vs us) (h : sp (vs ++ dvs) H Q E) :
    wpAny (model X.prog X.w) X.A (call (.ref f) us) (EP X pins σ Q) X.xe s := by
  have rr : Vals (vs ++ dvs) (us ++ ds) := r.append hd
  have ln : (us ++ ds).length = ps.length := by
    rw [← rr.length]
    exact F.len _ _ _ _ h
  have cc := F.run X.A X.stack s H ⟨us, []⟩ (us ++ ds) (vs ++ dvs) Q E hgd hr I.env0 (hb s us I.kIn ln) rr h
  refine wpAny_call (codeAny_mono cc fun r s' hq => ?_)
  match r, hq with
  | .error e, hq => exact hx pins σ H s e s' I hq
  | .ok (.ret u), hq => exact I.after hq
  | .ok .next, hq => exact False.elim hq
  | .ok .brk, hq => exact False.elim hq
  | .ok .cont, hq => exact False.elim hq
theorem pe_callG (hgd : X.A.guards = some []) (F : FnG X.prog X.w X.K X.mg X.base CX k f fd ps sp)
    (hr : Room k X.A) (hg : Gl X x) (hm : X.mg x = some (.ref f)) (hk : PySem.W.keepIn X.K (.ref f) = true)
    (hb : Binds X.K fd ps ds) (hd : Vals dvs ds) (hx : Passes CX X E) (ha : PA X (e :: es) t)
    (hdb : (x == ("__debug__" : Str)) = false := by decide)
    (he : starEach (e :: es) X.env = (false, eval e X.env) :: starEach es X.env := by rfl)
    (hpl : (backTo pos (starEach es X.env)).any (·.1) = false := by rfl) :
    PE X (.Call (.Name x p) (e :: es) [] pos) (tCall sp dvs E t) := by
  constructor
  intro pins s σ H Q I h
  refine wpAny_Call_Name_kw (ld_glob I hg hm ?_ hdb)
  refine PySem.W.callWith_K (h₀ := X.base) I.ok.mod.kin hk ?_ he hpl
  refine thn (ha.run pos pins s σ H _ I h) fun us s1 q => ?_
  obtain ⟨vs, H1, I1, r, q⟩ := q
  exact ⟨I1.kIn, run_G hgd F hr hb hd hx I1 r q⟩
/-- f(k = v, ..): keywords alone -/
def tCallN0 (m : Nat) (sp : Sp) (gV : List V → List V → List V) (E : XK) (tk : TA) : TE := fun σ H Q =>
  tk σ H fun zs H2 => zs.length = m ∧ sp (gV [] zs) H2 Q E
theorem pe_callN0 (F : FnOk X.prog X.w X.K X.mg X.base CX k f fd ps sp) (hr : Room k X.A) (hg : Gl X x)
    (hm : X.mg x = some (.ref f)) (hk : PySem.W.keepIn X.K (.ref f) = true) (hb : KBn X.K fd ps 0 ks g gV)
    (hx : Passes CX X E) (hkw : PK X kws tk)
    (hall : (backToKw pos (keywordEach kws X.env)).all (·.1.isSome) = true := by rfl)
    (hks : (backToKw pos (keywordEach kws X.env)).filterMap (·.1) = ks := by rfl)
    (hdb : (x == ("__debug__" : Str)) = false := by decide)
    (hpl : ((backTo pos (starEach [] X.env)).any (·.1) || (backToKw pos (keywordEach kws X.env)).any (·.1.isNone)) = false := by rfl) :
    PE X (.Call (.Name x p) [] kws pos) (tCallN0 ks.length sp gV E tk) := by
  constructor
  intro pins s σ H Q I h
  refine wpAny_Call_Name_kw (ld_glob I hg hm ?_ hdb)
  refine PySem.W.callWith_KW0 (h₀ := X.base) I.ok.mod.kin hk hall ?_ hpl
  refine thn (hkw.run pos pins s σ H _ I h) fun ws s2 q => ?_
  obtain ⟨zs, H2, I2, rz, l2, q2⟩ := q
  refine ⟨I2.kIn, ?_⟩
  rw [hks]
  exact run_fnN F hr hb hx I2 (.nil : Vals [] []) rz rfl l2 q2
theorem pe_callNG (hgd : X.A.guards = some []) (F : FnG X.prog X.w X.K X.mg X.base CX k f fd ps sp) (hr : Room k X.A) (hg : Gl X x)
    (hm : X.mg x = some (.ref f)) (hk : PySem.W.keepIn X.K (.ref f) = true) (hb : Binds X.K fd ps ds) (hd : Vals dvs ds)
    (hx : Passes CX X E) (hdb : (x == ("__debug__" : Str)) = false := by decide) :
    PE X (.Call (.Name x p) [] [] pos) (tCall sp dvs E tNil) := by
  constructor
  intro pins s σ H Q I h
  refine wpAny_Call_Name_kw (ld_glob I hg hm ?_ hdb)
  exact PySem.W.callWith_K0 I.kIn hk (run_G (us := []) hgd F hr hb hd hx I .nil h)
end

/-! ### repr of data -/
mutual
theorem noDict {K : PySem.W.Frag} {H : Hp} : ∀ (d : PyData) (v : V), Dp K H v d → d.hasDict = false
  | .none, _, _ => by simp only [PyData.hasDict]
  | .bool _, _, _ => by simp only [PyData.hasDict]
  | .int _, _, _ => by simp only [PyData.hasDict]
  | .str _, _, _ => by simp only [PyData.hasDict]
  | .list ds, _, h => by
    cases h with
    | lst _ ha =>
      simp only [PyData.hasDict]
      exact noDictAll ds _ ha
  | .tuple ds, _, h => by
    cases h with
    | tup _ ha =>
      simp only [PyData.hasDict]
      exact noDictAll ds _ ha
  | .dict _, _, h => by cases h
theorem noDictAll {K : PySem.W.Frag} {H : Hp} : ∀ (ds : List PyData) (vs : List V), DpAll K H vs ds → PyData.hasDictAll ds = false
  | [], _, _ => by simp only [PyData.hasDictAll]
  | d :: ds, _, h => by
    cases h with
    | cons h1 h2 =>
      simp only [PyData.hasDictAll, noDict d _ h1, noDictAll ds _ h2, Bool.or_false]
end
/-- what repr asks of its data -/
structure Showy (d : PyData) : Prop where
  sh : d.showable = true
  dp : d.depth ≤ 60
  ln : d.shown.length ≤ sizeLine
def rRepr (K : PySem.W.Frag) : List V → Hp → VK → Prop := fun xs H Q =>
  ∃ x d, xs = [x] ∧ Dp K H x d ∧ Showy d ∧ Q (.str d.shown) H
theorem call_reprD {X : Cx} {k : Nat} (hg : X.A.guards = some []) (hr : Room k X.A) : CallR X (.builtin "repr") (rRepr X.K) := by
  intro pins s σ H xs us Q I r h
  obtain ⟨x, d, rfl, hd, sy, q⟩ := h
  obtain ⟨u, rfl, rx⟩ := vals1 r
  obtain ⟨as, rd⟩ := Dp.reads I d x u hd rx
  have nd := noDict d x hd
  obtain ⟨hs, hdp, hl⟩ := sy
  cases hd with
  | non =>
    cases rx
    exact PySem.P.repr_of_none ⟨.str _, H, I.tok _, ⟨_, by simp only [PyData.shown] <;> rfl⟩, q⟩
  | bl b =>
    cases rx
    exact PySem.P.repr_of_bool ⟨.str _, H, I.tok _, ⟨_, by simp only [PyData.shown] <;> rfl⟩, q⟩
  | int i =>
    obtain ⟨t, rfl⟩ := rx
    have hi : i.natAbs.log2 < 1920 := by simpa [PyData.showable] using hs
    exact PySem.P.repr_of_int hi ⟨.str _, H, I.tok _, ⟨_, by simp only [PyData.shown] <;> rfl⟩, q⟩
  | str z =>
    obtain ⟨t, rfl⟩ := rx
    exact PySem.P.repr_of_str ⟨.str _, H, I.tok _, ⟨_, by simp only [PyData.shown] <;> rfl⟩, q⟩ (by simpa only [PyData.shown] using hl)
  | lst hs' ha =>
    cases rx
    have un := hr.units
    exact repr_of_reads' rd hs (PyData.noDict_hsm nd) hg (by omega) (fun _ _ e => e)
      (fun h' u tk kp => ⟨.str _, H, I.kept kp, ⟨u, rfl⟩, q⟩) hl
  | tup hs' ha =>
    cases rx
    have un := hr.units
    exact repr_of_reads' rd hs (PyData.noDict_hsm nd) hg (by omega) (fun _ _ e => e)
      (fun h' u tk kp => ⟨.str _, H, I.kept kp, ⟨u, rfl⟩, q⟩) hl
end Hw

/-! The end of a law's row for a law whose def is run where no guard stands; the script's bits are told. -/
namespace Hw
open PySem PySem.Spec PyProof.Rows L2
section
variable {P : Program} {w : World} {K : PySem.W.Frag} {mg mb : Str → Option Value} {CX : CXT} {k : Nat} {fa a : Addr}
variable {fd : FuncData} {x : Str} {sp : Sp} {s₁ : Shared} {vs : List Value} {ns : List Int}
/-- from an abstract heap in which at most the script is tracked, locked -/
theorem lawG_core (KX : K.In s₁.heap) (hns : s₁.heap.Ns mainGlobals mg) (hb : s₁.heap.Ns builtinsNs mb)
    (hbb : ∀ x : Str, x ≠ "__name__" → mb x = bootBuiltins x) (hlim : s₁.heap.NoLimit) (hg : s₁.gens = #[])
    (ha : s₁.heap.get? a = some { cls := .type "list", data := .seq vs.toArray }) (hr : Room k callerA)
    (F : ∀ base : Heap, K.In base → base.Ns mainGlobals mg → FnG P w K mg base CX k fa fd [x] sp)
    (hbind : ∀ (s : Shared) (u : Value), BindsTo s fd ⟨[u], []⟩ [(x, u)])
    (hCX : ∀ H e s', CX [] H s₁ (fun _ _ _ => False) e s' → False)
    (H : Hp) (hO : Only H) (hsp : sp [.ref a] H (fun v _ => v = .bl true) fun _ _ _ => False) (hok : HOk P w H s₁.heap)
    (hA : ∀ b, H b ≠ none → b = a) (hK : H a ≠ none → K.lookup a = none) :
    codeAny (model P w) callerA (.call (.ref fa) ⟨[.ref a], []⟩)
      (fun r s' => r = .ok (.ret (.bool true)) ∧ OldK s₁.heap s'.heap ∧ s'.os = s₁.os ∧ AllBare s'.gens) s₁ := by
  have stays : ∀ {b : Addr} {o : Obj}, s₁.heap.get? b = some o → H b = none → (hidT s₁.heap H).get? b = some o :=
    fun e n => hidT_get e n
  have isA : ∀ {b : Addr} {u : HO}, H b = some u → b = a := fun {b u} q => hA b (by rw [q]; simp)
  have noDic : ∀ {b : Addr} {o : Obj} {es : Array DictEntry} {ep : Nat}, s₁.heap.get? b = some o → o.data = .dict es ep → H b = none := by
    intro b o es ep e d
    cases q : H b with
    | none => rfl
    | some u =>
      rw [isA q, ha] at e
      cases e
      cases (show Data.seq vs.toArray _ = Data.dict es ep from d)
  have names : ∀ {b : Addr} {m : Str → Option Value}, s₁.heap.Ns b m → (hidT s₁.heap H).Ns b m := by
    rintro b m ⟨o, es, ep, e, d, r⟩
    exact ⟨o, es, ep, stays e (noDic e d), d, r⟩
  have kin : K.In (hidT s₁.heap H) := by
    intro b o e
    refine stays (KX b o e) ?_
    cases q : H b with
    | none => rfl
    | some u =>
      have e' := isA q
      subst e'
      rw [hK (by rw [q]; simp)] at e
      cases e
  obtain ⟨mc, l1, l2⟩ := hlim
  have md : Mod K mg (hidT s₁.heap H) := ⟨kin, names hns, ⟨mb, names hb, hbb⟩, ⟨mc, names l1, l2⟩⟩
  have e0 : Env0 P w K mg (hidT s₁.heap H) callerA [] s₁ H :=
    ⟨rfl, md, fun b o e => of_hidT e, Nat.le_of_eq (hidT_size _ _), trivial,
      fun b hb => absurd (show b ∈ ([] : List Addr) from hb) (by simp), hok, .of_eq hg⟩
  have go := (F _ kin (names hns)).run callerA [] s₁ H ⟨[.ref a], []⟩ [.ref a] [.ref a] _ _ rfl hr e0
    (hbind s₁ (.ref a)) (.cons rfl .nil) hsp
  refine codeAny_mono go fun r s' h => ?_
  match r, h with
  | .error e, h => exact (hCX H e s' h).elim
  | .ok .next, h => exact False.elim h
  | .ok .brk, h => exact False.elim h
  | .ok .cont, h => exact False.elim h
  | .ok (.ret u), h =>
    obtain ⟨v, H', os, bare, un, hok', r', q⟩ := h
    obtain rfl : v = .bl true := q
    obtain rfl : u = Value.bool true := r'
    refine ⟨rfl, OldK.of_keep fun b o e => ?_, os, bare⟩
    cases q : H b with
    | none => exact un.keep b o e q (fun z => absurd (show b ∈ ([] : List Addr) from z) (by simp)) (by simp)
    | some u =>
      rcases hO b with z | ⟨ob, xs, z⟩
      · rw [q] at z
        cases z
      · have z2 := un.frzs b ob _ z
        have e1 := (hok b _ z).1
        have e2 := (hok' b _ z2).1
        rw [e] at e1
        cases e1
        exact e2
theorem lawG (KX : K.In s₁.heap) (hns : s₁.heap.Ns mainGlobals mg) (hb : s₁.heap.Ns builtinsNs mb)
    (hbb : ∀ x : Str, x ≠ "__name__" → mb x = bootBuiltins x) (hlim : s₁.heap.NoLimit) (hg : s₁.gens = #[])
    (ha : s₁.heap.get? a = some { cls := .type "list", data := .seq vs.toArray }) (hi : IntsAre vs ns) (hl : ns.length ≤ sizeLine)
    (hr : Room k callerA) (F : ∀ base : Heap, K.In base → base.Ns mainGlobals mg → FnG P w K mg base CX k fa fd [x] sp)
    (hbind : ∀ (s : Shared) (u : Value), BindsTo s fd ⟨[u], []⟩ [(x, u)])
    (hsp : ∀ H : Hp, Only H → SqL K H a (ns.map V.int) → sp [.ref a] H (fun v _ => v = .bl true) fun _ _ _ => False)
    (hCX : ∀ H e s', CX [] H s₁ (fun _ _ _ => False) e s' → False) :
    codeAny (model P w) callerA (.call (.ref fa) ⟨[.ref a], []⟩)
      (fun r s' => r = .ok (.ret (.bool true)) ∧ OldK s₁.heap s'.heap ∧ s'.os = s₁.os ∧ AllBare s'.gens) s₁ := by
  have rv := vals_ints hi
  have lenV := hi.length
  cases hk : K.lookup a with
  | some o =>
    have e := KX a o hk
    rw [ha] at e
    cases e
    have sq : SqL K (fun _ => none) a (ns.map V.int) :=
      .inr ⟨_, vs.toArray, _, hk, rfl, rfl, rfl, by rw [List.size_toArray, lenV]; exact hl, by simpa using rv⟩
    exact lawG_core KX hns hb hbb hlim hg ha hr F hbind hCX (fun _ => none) (fun _ => .inl rfl) (hsp _ (fun _ => .inl rfl) sq)
      (fun b u z => nomatch (show (none : Option HO) = some u from z)) (fun b z => absurd rfl z) fun z => absurd rfl z
  | none =>
    have on : Only (fun b => if b = a then some (.frz { cls := .type "list", data := .seq vs.toArray } (.lst (ns.map V.int))) else none) := by
      intro b
      by_cases hb : b = a
      · exact .inr ⟨_, _, if_pos hb⟩
      · exact .inl (if_neg hb)
    refine lawG_core KX hns hb hbb hlim hg ha hr F hbind hCX _ on (hsp _ on (.inl (.inr ⟨_, if_pos rfl⟩))) (fun b u z => ?_) (fun b z => ?_) fun _ => hk
    · by_cases hb : b = a
      · cases (if_pos hb).symm.trans z
        subst hb
        exact ⟨ha, by rw [List.length_map]; exact hl, vs, _, rv, ha⟩
      · cases (if_neg hb).symm.trans z
    · by_cases hb : b = a
      · exact hb
      · exact absurd (if_neg hb) z
end
/-- the goal behind the head -/
theorem walkG {l : PySem.W.OpenLaw} {n k : Nat} {q : Program} {loose : List Str} {XP : (Str → Option Value) → Heap → Prop}
    {YP : World → Heap → Prop} {d : DefRec} {CX : World → CXT} {x : Str} (hn : l.most = some n) (hn2 : n ≤ sizeLine)
    (hdf : d.params.defaults = []) (hr : Room k callerA)
    (F : ∀ (w : World) (mg : Str → Option Value) (fa : Addr) (h : Heap), YP w h → h.Ns mainGlobals mg → mg d.name = some (.ref fa) →
      ∃ (K : PySem.W.Frag) (fd : FuncData) (sp : Sp), K.In h ∧ (∀ (s : Shared) (u : Value), BindsTo s fd ⟨[u], []⟩ [(x, u)]) ∧
        (∀ (H : Hp) (a : Addr) (ns : List Int), ns.length ≤ n → (∀ z ∈ ns, Builtin.Int.intBits z ≤ 1048576) → Only H →
          SqL K H a (ns.map V.int) → sp [.ref a] H (fun v _ => v = .bl true) fun _ _ _ => False) ∧
        ∀ base : Heap, K.In base → base.Ns mainGlobals mg → FnG l.prog w K mg base (CX w) k fa fd [x] sp)
    (hCX : ∀ (w : World) (H : Hp) (s : Shared) (e : Value) (s' : Shared), CX w [] H s (fun _ _ _ => False) e s' → False) :
    PySem.W.WalkO q loose XP YP l.row.toRowW d [] (fun f vs => PySem.call f vs) := by
  refine Att.attach_callB hn hdf ?_
  intro w s₀ s₁ mg mb fa o pm cd doc a vs ns G Y ho hd hcd hmg hobj hints hlen hbits hg
  obtain ⟨K, fd, sp, KX, hb, hsp, hF⟩ := F w mg fa _ Y G.T.g hmg
  exact lawG KX G.T.g G.T.b G.T.builtins G.T.nolimit hg hobj hints (Nat.le_trans hlen hn2) hr hF hb
    (fun H hO hS => hsp H a ns hlen hbits hO hS) fun H e s' => hCX w H s₁ e s'
end Hw

/-! Callees by name; what evaluates to what: further rules; lists of numbers. -/
namespace Hw
open PySem PySem.Spec PyProof.Rows L2 Evl

/-! ### a def as its callers know it -/
structure Callee (P : Program) (w : World) (K : PySem.W.Frag) (mg : Str → Option Value) (base : Heap) (CX : CXT)
    (k : Nat) (x : Str) (ps : List Str) (dvs : List V) (sp : Sp) : Prop where
  ex : ∃ (fd : FuncData) (ds : List Value), FnOk P w K mg base CX k (He.ga K x) fd ps sp ∧ Binds K fd ps ds ∧ Vals dvs ds
  g : mg x = some (.ref (He.ga K x))
  kp : PySem.W.keepIn K (.ref (He.ga K x)) = true
/-- called by keywords alone -/
structure KCallee (P : Program) (w : World) (K : PySem.W.Frag) (mg : Str → Option Value) (base : Heap) (CX : CXT)
    (k : Nat) (x : Str) (ps ks : List Str) (gV : List V → List V → List V) (sp : Sp) : Prop where
  ex : ∃ (fd : FuncData) (g : List Value → List Value → List Value), FnOk P w K mg base CX k (He.ga K x) fd ps sp ∧ KBn K fd ps 0 ks g gV
  g : mg x = some (.ref (He.ga K x))
  kp : PySem.W.keepIn K (.ref (He.ga K x)) = true
structure GCallee (P : Program) (w : World) (K : PySem.W.Frag) (mg : Str → Option Value) (base : Heap) (CX : CXT)
    (k : Nat) (x : Str) (ps : List Str) (dvs : List V) (sp : Sp) : Prop where
  ex : ∃ (fd : FuncData) (ds : List Value), FnG P w K mg base CX k (He.ga K x) fd ps sp ∧ Binds K fd ps ds ∧ Vals dvs ds
  g : mg x = some (.ref (He.ga K x))
  kp : PySem.W.keepIn K (.ref (He.ga K x)) = true
section
variable {X : Cx} {CX : CXT} {k j : Nat} {ps ks : List Str} {sp : Sp} {dvs : List V} {E : XK}
variable {x : Str} {p pos : Pos} {e : Expr} {es : List Expr} {kws : List Keyword} {t tk : TA} {gV : List V → List V → List V}
theorem pe_cc (c : Callee X.prog X.w X.K X.mg X.base CX k x ps dvs sp) (hr : Room k X.A) (hg : Gl X x) (hx : Passes CX X E)
    (ha : PA X (e :: es) t) (hdb : (x == ("__debug__" : Str)) = false := by decide)
    (he : starEach (e :: es) X.env = (false, eval e X.env) :: starEach es X.env := by rfl)
    (hpl : (backTo pos (starEach es X.env)).any (·.1) = false := by rfl) :
    PE X (.Call (.Name x p) (e :: es) [] pos) (tCall sp dvs E t) := by
  obtain ⟨fd, ds, F, b, hv⟩ := c.ex
  exact pe_call F hr hg c.g c.kp b hv hx ha hdb he hpl
theorem pe_cc0 (c : Callee X.prog X.w X.K X.mg X.base CX k x ps dvs sp) (hr : Room k X.A) (hg : Gl X x) (hx : Passes CX X E)
    (hdb : (x == ("__debug__" : Str)) = false := by decide) : PE X (.Call (.Name x p) [] [] pos) (tCall sp dvs E tNil) := by
  obtain ⟨fd, ds, F, b, hv⟩ := c.ex
  exact pe_call0 F hr hg c.g c.kp b hv hx hdb
theorem pe_ccG (hgd : X.A.guards = some []) (c : GCallee X.prog X.w X.K X.mg X.base CX k x ps dvs sp) (hr : Room k X.A) (hg : Gl X x)
    (hx : Passes CX X E) (ha : PA X (e :: es) t) (hdb : (x == ("__debug__" : Str)) = false := by decide)
    (he : starEach (e :: es) X.env = (false, eval e X.env) :: starEach es X.env := by rfl)
    (hpl : (backTo pos (starEach es X.env)).any (·.1) = false := by rfl) :
    PE X (.Call (.Name x p) (e :: es) [] pos) (tCall sp dvs E t) := by
  obtain ⟨fd, ds, F, b, hv⟩ := c.ex
  exact pe_callG hgd F hr hg c.g c.kp b hv hx ha hdb he hpl
theorem pe_ck (c : KCallee X.prog X.w X.K X.mg X.base CX k x ps ks gV sp) (hr : Room k X.A) (hg : Gl X x) (hx : Passes CX X E)
    (hkw : PK X kws tk) (hall : (backToKw pos (keywordEach kws X.env)).all (·.1.isSome) = true := by rfl)
    (hks : (backToKw pos (keywordEach kws X.env)).filterMap (·.1) = ks := by rfl)
    (hdb : (x == ("__debug__" : Str)) = false := by decide)
    (hpl : ((backTo pos (starEach [] X.env)).any (·.1) || (backToKw pos (keywordEach kws X.env)).any (·.1.isNone)) = false := by rfl) :
    PE X (.Call (.Name x p) [] kws pos) (tCallN0 ks.length sp gV E tk) := by
  obtain ⟨fd, g, F, b⟩ := c.ex
  exact pe_callN0 F hr hg c.g c.kp b hx hkw hall hks hdb hpl
end
section
variable {P : Program} {w : World} {K : PySem.W.Frag} {mg : Str → Option Value} {base : Heap} {CX : CXT}
variable {k : Nat} {x : Str} {ps : List Str} {sp : Sp} {dvs : List V} {N : List Str} {pa : Arguments} {bo : List Stmt} {sc : Scope} {dfl : List V}
theorem Callee.mono {j : Nat} (c : Callee P w K mg base CX j x ps dvs sp) (h : j ≤ k) : Callee P w K mg base CX k x ps dvs sp := by
  obtain ⟨fd, ds, F, b, hv⟩ := c.ex
  exact ⟨⟨fd, ds, F.mono h, b, hv⟩, c.g, c.kp⟩
theorem Callee.imp {sp' : Sp} (c : Callee P w K mg base CX k x ps dvs sp) (h : ∀ vs H Q E, sp' vs H Q E → sp vs H Q E) : Callee P w K mg base CX k x ps dvs sp' := by
  obtain ⟨fd, ds, F, b, hv⟩ := c.ex
  exact ⟨⟨fd, ds, F.imp h, b, hv⟩, c.g, c.kp⟩
/-- what is shown of a body that lets nothing out -/
abbrev BodyOk (P : Program) (w : World) (K : PySem.W.Frag) (mg : Str → Option Value) (base : Heap) (N : List Str) (x : Str) (sc : Scope) (bo : List Stmt) (k : Nat) (sp : Sp) : Prop :=
  ∀ (cdv : Value) (f : Addr) (A : Around) (outer : List Env) (s : Shared) (H : Hp) (vs : List V) (Q : VK) (E : XK),
    Room k (A.deeper (envOfC x sc s.heap.objs.size f cdv)) → sp vs H Q E →
      ∃ t, PSs (cxOf CX0 P w K mg base N x sc f cdv A outer s H E).nox bo t ∧ t { nx := fun _ H' => Q .non H', rt := Q } (start N vs) H
/-- a def without defaults, from its body -/
theorem callee_of (hg : mg x = some (.ref (He.ga K x))) (hF : ∃ fd, FunD K x x pa bo sc [] [] (He.ga K x) fd) (S : FnScope N ps sc)
    (hb : ∀ (kV doc pm : Value) (an : Option Addr) (cdv ct : Value) (us : List Value), us.length = ps.length →
      bindArgs (PySem.W.fnOf x x pa bo sc .none kV doc pm an cdv ct) ⟨us, []⟩ = pure (ps.zip us))
    (len : ∀ vs H Q E, sp vs H Q E → vs.length = ps.length) (body : BodyOk P w K mg base N x sc bo k sp) :
    Callee P w K mg base CX0 (k + 1) x ps [] sp := by
  obtain ⟨fd, F⟩ := hF
  refine ⟨⟨fd, [], ?_, F.bindsN hb, .nil⟩, hg, F.kp⟩
  refine F.ok S len fun cdv A outer s H vs Q E hr h => ?_
  obtain ⟨t, ht, q⟩ := body cdv _ A outer s H vs Q E hr h
  exact ⟨t, ht.nox, q⟩
/-- the same def by keywords alone, all of them -/
theorem kcallee_of {ks : List Str} {g : List Value → List Value → List Value} {gV : List V → List V → List V}
    (hF : ∃ fd, FunD K x x pa bo sc [] [] (He.ga K x) fd) (S : FnScope N ps sc) (hg : mg x = some (.ref (He.ga K x)))
    (hb : ∀ (kV doc pm : Value) (an : Option Addr) (cdv ct : Value) (us ws : List Value), us.length = 0 → ws.length = ks.length →
      bindArgs (PySem.W.fnOf x x pa bo sc .none kV doc pm an cdv ct) ⟨us, ks.zip ws⟩ = pure (ps.zip (g us ws)))
    (hv : ∀ {vs : List V} {us : List Value} {zs : List V} {ws : List Value}, Vals vs us → Vals zs ws → Vals (gV vs zs) (g us ws))
    (len : ∀ vs H Q E, sp vs H Q E → vs.length = ps.length) (body : BodyOk P w K mg base N x sc bo k sp) :
    KCallee P w K mg base CX0 (k + 1) x ps ks gV sp := by
  obtain ⟨fd, F⟩ := hF
  have kp := F.kp
  refine ⟨⟨fd, g, ?_, ?_⟩, hg, kp⟩
  · refine F.ok S len fun cdv A outer s H vs Q E hr h => ?_
    obtain ⟨t, ht, q⟩ := body cdv _ A outer s H vs Q E hr h
    exact ⟨t, ht.nox, q⟩
  · obtain ⟨oc, od, dV, kV, doc, pm, an, cdv, ct, osl, rfl, lk, hcd, hD, hK⟩ := F.ex
    rcases hD with ⟨_, rfl⟩ | ⟨e, _⟩
    · exact ⟨fun s us ws _ l1 l2 => .of_eq (hb kV doc pm an cdv ct us ws l1 l2), fun r1 r2 => hv r1 r2⟩
    · exact absurd rfl e
/-- with defaults: n arguments are written -/
theorem callee_ofD (n j : Nat) (hd : dfl ≠ []) (hn : n + (dfl.length - j) = ps.length) (hg : mg x = some (.ref (He.ga K x)))
    (hF : ∃ fd, FunD K x x pa bo sc dfl [] (He.ga K x) fd) (S : FnScope N ps sc)
    (hb : ∀ (T : Addr) (kV doc pm : Value) (an : Option Addr) (cdv ct : Value) (us its : List Value), us.length = n → its.length = dfl.length →
      ∃ k, bindArgs (PySem.W.fnOf x x pa bo sc (.ref T) kV doc pm an cdv ct) ⟨us, []⟩ = seqItems? (.ref T) >>= k ∧ k (some its.toArray) = pure (ps.zip (us ++ its.drop j)))
    (len : ∀ vs H Q E, sp vs H Q E → vs.length = ps.length) (body : BodyOk P w K mg base N x sc bo k sp) :
    Callee P w K mg base CX0 (k + 1) x ps (dfl.drop j) sp := by
  obtain ⟨fd, F⟩ := hF
  obtain ⟨ds, hv, b⟩ := F.binds1 n j hd hn hb
  refine ⟨⟨fd, ds, ?_, b, hv⟩, hg, F.kp⟩
  refine F.ok S len fun cdv A outer s H vs Q E hr h => ?_
  obtain ⟨t, ht, q⟩ := body cdv _ A outer s H vs Q E hr h
  exact ⟨t, ht.nox, q⟩
/-- with defaults, all arguments written -/
theorem callee_ofDall (hg : mg x = some (.ref (He.ga K x))) (hd : dfl ≠ []) (hF : ∃ fd, FunD K x x pa bo sc dfl [] (He.ga K x) fd) (S : FnScope N ps sc)
    (hb : ∀ (T : Addr) (kV doc pm : Value) (an : Option Addr) (cdv ct : Value) (us its : List Value), us.length = ps.length → its.length = dfl.length →
      ∃ k, bindArgs (PySem.W.fnOf x x pa bo sc (.ref T) kV doc pm an cdv ct) ⟨us, []⟩ = seqItems? (.ref T) >>= k ∧ k (some its.toArray) = pure (ps.zip us))
    (len : ∀ vs H Q E, sp vs H Q E → vs.length = ps.length) (body : BodyOk P w K mg base N x sc bo k sp) :
    Callee P w K mg base CX0 (k + 1) x ps [] sp := by
  have h := callee_ofD (P := P) (w := w) (base := base) (sp := sp) (k := k) ps.length dfl.length hd (by omega) hg hF S (fun T kV doc pm an cdv ct us its h1 h2 => by
    obtain ⟨k, e1, e2⟩ := hb T kV doc pm an cdv ct us its h1 h2
    refine ⟨k, e1, ?_⟩
    rw [e2, List.drop_of_length_le (by omega), List.append_nil]) len body
  rw [List.drop_of_length_le (Nat.le_refl _)] at h
  exact h
/-- the law's own def -/
theorem lawfn_of {fd : FuncData} (F : FunD K x x pa bo sc [] [] (He.ga K x) fd) (S : FnScope N ps sc)
    (len : ∀ vs H Q E, sp vs H Q E → vs.length = ps.length)
    (body : ∀ (cdv : Value) (f : Addr) (A : Around) (outer : List Env) (s : Shared) (H : Hp) (vs : List V) (Q : VK) (E : XK), A.guards = some [] →
      Room k (A.deeper (envOfC x sc s.heap.objs.size f cdv)) → sp vs H Q E →
        ∃ t, PSs (cxOf CX0 P w K mg base N x sc f cdv A outer s H E).nox bo t ∧ t { nx := fun _ H' => Q .non H', rt := Q } (start N vs) H) :
    FnG P w K mg base CX0 (k + 1) (He.ga K x) fd ps sp := by
  refine okG F S len fun cdv A outer s H vs Q E hga hr h => ?_
  obtain ⟨t, ht, q⟩ := body cdv _ A outer s H vs Q E hga hr h
  exact ⟨t, ht.nox, q⟩
/-- a def that is run where no guard stands -/
theorem gcallee_of (hg : mg x = some (.ref (He.ga K x))) (hF : ∃ fd, FunD K x x pa bo sc [] [] (He.ga K x) fd) (S : FnScope N ps sc)
    (hb : ∀ (kV doc pm : Value) (an : Option Addr) (cdv ct : Value) (us : List Value), us.length = ps.length →
      bindArgs (PySem.W.fnOf x x pa bo sc .none kV doc pm an cdv ct) ⟨us, []⟩ = pure (ps.zip us))
    (len : ∀ vs H Q E, sp vs H Q E → vs.length = ps.length)
    (body : ∀ (cdv : Value) (f : Addr) (A : Around) (outer : List Env) (s : Shared) (H : Hp) (vs : List V) (Q : VK) (E : XK), A.guards = some [] →
      Room k (A.deeper (envOfC x sc s.heap.objs.size f cdv)) → sp vs H Q E →
        ∃ t, PSs (cxOf CX0 P w K mg base N x sc f cdv A outer s H E).nox bo t ∧ t { nx := fun _ H' => Q .non H', rt := Q } (start N vs) H) :
    GCallee P w K mg base CX0 (k + 1) x ps [] sp := by
  obtain ⟨fd, F⟩ := hF
  refine ⟨⟨fd, [], ?_, F.bindsN hb, .nil⟩, hg, F.kp⟩
  refine okG F S len fun cdv A outer s H vs Q E hga hr h => ?_
  obtain ⟨t, ht, q⟩ := body cdv _ A outer s H vs Q E hga hr h
  exact ⟨t, ht.nox, q⟩
end

theorem vals_getD : ∀ {zs : List V} {ws : List Value}, Vals zs ws → ∀ i : Nat, L2.RelV (zs.getD i .non) (ws.getD i .none)
  | _, _, .nil, i => by
    rw [List.getD_nil, List.getD_nil]
    exact rfl
  | _, _, .cons r t, 0 => by simpa using r
  | _, _, .cons r t, i + 1 => by simpa using vals_getD t i
/-! ### lists of numbers -/
def nl (ws : List Nat) : List V := ws.map fun (n : Nat) => V.int (n : Int)
def il (ns : List Int) : List V := ns.map V.int
theorem nl_len (ws : List Nat) : (nl ws).length = ws.length := by simp [nl]
theorem il_len (ns : List Int) : (il ns).length = ns.length := by simp [il]
theorem nl_il (ws : List Nat) : nl ws = il (ws.map fun (n : Nat) => (n : Int)) := by simp [nl, il]
theorem nl_get {ws : List Nat} {i : Nat} (h : i < ws.length) : (nl ws)[i]? = some (.int ((ws[i] : Nat) : Int)) := by
  unfold nl
  rw [List.getElem?_map, List.getElem?_eq_getElem h]
  rfl
theorem nl_get' {ws : List Nat} {i : Nat} {x : V} (h : (nl ws)[i]? = some x) : ∃ n, ws[i]? = some n ∧ x = .int ((n : Nat) : Int) := by
  unfold nl at h
  rw [List.getElem?_map] at h
  cases e : ws[i]? with
  | none => rw [e] at h; cases h
  | some n => rw [e] at h; exact ⟨n, rfl, (Option.some.inj h).symm⟩
theorem il_get' {ws : List Int} {i : Nat} {x : V} (h : (il ws)[i]? = some x) : ∃ n, ws[i]? = some n ∧ x = .int n := by
  unfold il at h
  rw [List.getElem?_map] at h
  cases e : ws[i]? with
  | none => rw [e] at h; cases h
  | some n => rw [e] at h; exact ⟨n, rfl, (Option.some.inj h).symm⟩
theorem atI_nl {ws : List Nat} {i : Nat} (h : i < ws.length) : atI (nl ws) (i : Int) = some (.int ((ws[i] : Nat) : Int)) := atI_nat (nl_get h)
theorem atI_nlD {ws : List Nat} {i : Nat} (h : i < ws.length) : atI (nl ws) (i : Int) = some (.int ((ws.getD i 0 : Nat) : Int)) := by
  rw [atI_nl h]
  simp [List.getD, h]
theorem atI_back {α : Type} {xs : List α} {v : α} (h : xs.getLast? = some v) : atI xs (-1) = some v := by
  obtain ⟨ys, rfl⟩ := List.getLast?_eq_some_iff.mp h
  exact atI_last ys v
theorem nl_last {ws : List Nat} {n : Nat} (h : ws.getLast? = some n) : atI (nl ws) (-1) = some (.int (n : Int)) := by
  refine atI_back ?_
  unfold nl
  rw [List.getLast?_map, h]
  rfl
theorem nl_append (a b : List Nat) : nl (a ++ b) = nl a ++ nl b := by simp [nl]
theorem nl_cons (a : Nat) (b : List Nat) : nl (a :: b) = .int (a : Int) :: nl b := rfl
theorem sIx_nn (n d : Nat) {o : Option Int} (k : Nat) (h : o = some (k : Int)) : HT.sIx n d o = min k n := by
  subst h
  exact HT.sIx_nat n d k
/-- xs[a:b], both ends not negative -/
theorem cutV_nn (xs : List V) (a b : Nat) : cutV xs (some (a : Int)) (some (b : Int)) = (xs.take b).drop a := by
  unfold cutV
  rw [HT.sIx_nat, HT.sIx_nat, List.drop_take]
  by_cases h : a ≤ xs.length
  · rw [Nat.min_eq_left h]
    by_cases hb : b ≤ xs.length
    · rw [Nat.min_eq_left hb]
    · rw [Nat.min_eq_right (by omega), List.take_of_length_le (by simp), List.take_of_length_le (by simp; omega)]
  · have h1 : min a xs.length = xs.length := Nat.min_eq_right (by omega)
    have h2 : xs.drop a = [] := List.drop_of_length_le (by omega)
    rw [h1, h2]
    simp
theorem cutV_0n (xs : List V) (b : Nat) : cutV xs none (some (b : Int)) = xs.take b := by
  unfold cutV
  rw [HT.sIx_nat, HT.sIx_none, List.drop_zero, Nat.sub_zero]
  by_cases hb : b ≤ xs.length
  · rw [Nat.min_eq_left hb]
  · rw [Nat.min_eq_right (by omega), List.take_length, List.take_of_length_le (by omega)]
theorem cutV_n0 (xs : List V) (a : Nat) : cutV xs (some (a : Int)) none = xs.drop a := by
  unfold cutV
  rw [HT.sIx_nat, HT.sIx_none]
  by_cases h : a ≤ xs.length
  · rw [Nat.min_eq_left h, List.take_of_length_le (by simp)]
  · have h1 : min a xs.length = xs.length := Nat.min_eq_right (by omega)
    have h2 : xs.drop a = [] := List.drop_of_length_le (by omega)
    rw [h1, h2]
    simp
theorem nl_take (ws : List Nat) (n : Nat) : (nl ws).take n = nl (ws.take n) := by simp [nl, List.map_take]
theorem nl_drop (ws : List Nat) (n : Nat) : (nl ws).drop n = nl (ws.drop n) := by simp [nl, List.map_drop]

/-! ### data -/
def dI (ns : List Int) : PyData := .list (ns.map PyData.int)
def dN (ws : List Nat) : PyData := .list (ws.map fun (n : Nat) => PyData.int (n : Int))
section
variable {K : PySem.W.Frag} {H H' : Hp}
theorem dpAll_il : ∀ ns : List Int, DpAll K H (il ns) (ns.map PyData.int)
  | [] => .nil
  | n :: ns => .cons (.int n) (dpAll_il ns)
theorem dpAll_nl : ∀ ns : List Nat, DpAll K H (nl ns) (ns.map fun (n : Nat) => PyData.int (n : Int))
  | [] => .nil
  | n :: ns => .cons (.int n) (dpAll_nl ns)
theorem dp_nl {a : Addr} {ws : List Nat} (h : SqL K H a (nl ws)) : Dp K H (.ref a) (dN ws) := .lst h (dpAll_nl ws)
theorem dp_il {a : Addr} {ws : List Int} (h : SqL K H a (il ws)) : Dp K H (.ref a) (dI ws) := .lst h (dpAll_il ws)
theorem dp_nil {a : Addr} (h : SqL K H a []) : Dp K H (.ref a) (.list []) := .lst h .nil
mutual
theorem Dp.mono (e : Ex H H') : ∀ (d : PyData) (v : V), Dp K H v d → Dp K H' v d
  | .none, _, h => by cases h; exact .non
  | .bool b, _, h => by cases h; exact .bl b
  | .int i, _, h => by cases h; exact .int i
  | .str x, _, h => by cases h; exact .str x
  | .list ds, _, h => by
    cases h with
    | lst hs ha => exact .lst (ex_l e hs) (DpAll.mono e ds _ ha)
  | .tuple ds, _, h => by
    cases h with
    | tup hs ha => exact .tup (ex_t e hs) (DpAll.mono e ds _ ha)
  | .dict _, _, h => by cases h
theorem DpAll.mono (e : Ex H H') : ∀ (ds : List PyData) (vs : List V), DpAll K H vs ds → DpAll K H' vs ds
  | [], _, h => by cases h; exact .nil
  | d :: ds, _, h => by
    cases h with
    | cons h1 h2 => exact .cons (Dp.mono e d _ h1) (DpAll.mono e ds _ h2)
end
theorem canAll_int : ∀ ns : List Int, PyData.canLayAll0 (ns.map PyData.int) = true
  | [] => by simp [PyData.canLayAll0]
  | n :: ns => by simp [PyData.canLayAll0, PyData.canLay0, canAll_int ns]
theorem depthAll_int : ∀ ns : List Int, PyData.depthAll (ns.map PyData.int) ≤ 1
  | [] => by simp [PyData.depthAll]
  | n :: ns => by
    have := depthAll_int ns
    simp only [List.map_cons, PyData.depthAll, PyData.depth]
    exact Nat.max_le.mpr ⟨by omega, this⟩
theorem shaped_dI (ns : List Int) : SeqAt.shaped (dI ns) = true := by
  unfold SeqAt.shaped dI
  have h1 := canAll_int ns
  have h2 := depthAll_int ns
  simp only [PyData.canLay0, PyData.depth, h1, Bool.true_and, decide_eq_true_eq]
  exact decide_eq_true (Nat.le_trans (Nat.add_le_add_right h2 1) (show 1 + 1 ≤ 64 by decide))
theorem dN_dI (ws : List Nat) : dN ws = dI (ws.map fun (n : Nat) => (n : Int)) := by simp [dN, dI]
theorem shaped_dN (ws : List Nat) : SeqAt.shaped (dN ws) = true := by rw [dN_dI]; exact shaped_dI _
theorem eqvAll_int : ∀ a b : List Int, PyData.eqvAll (a.map PyData.int) (b.map PyData.int) = decide (a = b)
  | [], [] => by simp [PyData.eqvAll]
  | [], _ :: _ => by simp [PyData.eqvAll]
  | _ :: _, [] => by simp [PyData.eqvAll]
  | x :: a, y :: b => by
    simp only [List.map_cons, PyData.eqvAll, PyData.eqv, eqvAll_int a b]
    by_cases h : x = y
    · subst h; simp
    · simp [h]
theorem eqv_dI (a b : List Int) : PyData.eqv (dI a) (dI b) = decide (a = b) := by
  unfold dI
  rw [PyData.eqv]
  exact eqvAll_int a b
theorem map_cast_inj : ∀ a b : List Nat, (a.map fun (n : Nat) => (n : Int)) = (b.map fun (n : Nat) => (n : Int)) → a = b
  | [], [], _ => rfl
  | [], _ :: _, h => by simp at h
  | _ :: _, [], h => by simp at h
  | x :: a, y :: b, h => by
    simp only [List.map_cons, List.cons.injEq] at h
    rw [Int.ofNat.inj h.1, map_cast_inj a b h.2]
theorem eqv_dN (a b : List Nat) : PyData.eqv (dN a) (dN b) = decide (a = b) := by
  rw [dN_dI, dN_dI, eqv_dI]
  by_cases h : a = b
  · subst h; simp
  · have : ¬ (a.map fun (n : Nat) => (n : Int)) = (b.map fun (n : Nat) => (n : Int)) := fun q => h (map_cast_inj a b q)
    rw [decide_eq_false h, decide_eq_false this]
end

/-! ### what evaluates to what -/
section
variable {K : PySem.W.Frag} {σ : L2.St} {H H' : Hp} {ta tb tc te tx : TE} {t u : TT} {x y z v : V} {r r' : R2}
theorem rv_eqD {d e : PyData} (hx : Dp K H x d) (hy : Dp K H y e) (sd : SeqAt.shaped d = true) (se : SeqAt.shaped e = true) : RV (rEqD K) x y H (.bl (PyData.eqv d e)) :=
  fun H1 e1 _ q => ⟨d, e, Dp.mono e1 _ _ hx, Dp.mono e1 _ _ hy, sd, se, q H1 (Ex.refl H1)⟩
theorem rv_neD {d e : PyData} (hx : Dp K H x d) (hy : Dp K H y e) (sd : SeqAt.shaped d = true) (se : SeqAt.shaped e = true) : RV (rNeD K) x y H (.bl (!PyData.eqv d e)) :=
  fun H1 e1 _ q => ⟨d, e, Dp.mono e1 _ _ hx, Dp.mono e1 _ _ hy, sd, se, q H1 (Ex.refl H1)⟩
def rIsN : R2 := fun x y H Q => y = .non ∧ Q (.bl (decide (x = .non))) H
theorem rv_isN : RV (fun x y H Q => y = .non ∧ Q (.bl (decide (x = .non))) H) x .non H (.bl (decide (x = .non))) := fun H1 _ _ q => ⟨rfl, q H1 (Ex.refl H1)⟩
theorem rv_notN : RV (fun x y H Q => y = .non ∧ Q (.bl (!decide (x = .non))) H) x .non H (.bl (!decide (x = .non))) := fun H1 _ _ q => ⟨rfl, q H1 (Ex.refl H1)⟩
theorem ev_chain {a b : Bool} (ha : Ev ta σ H x) (hb : Ev tb σ H y) (h1 : RV r x y H (.bl a)) (h2 : a = true → Ev tc σ H z ∧ RV r' y z H (.bl b)) : Ev (tChain r r' ta tb tc) σ H (.bl (a && b)) :=
  fun H1 e Q q => ha H1 e _ fun H2 e2 => hb H2 (e.trans e2) _ fun H3 e3 => h1 H3 ((e.trans e2).trans e3) _ fun H4 e4 => ⟨a, rfl, by
    have e14 := (e2.trans e3).trans e4
    cases a with
    | true =>
      obtain ⟨hc, h3⟩ := h2 rfl
      show tc σ H4 _
      exact hc H4 (e.trans e14) _ fun H5 e5 => h3 H5 ((e.trans e14).trans e5) Q fun H6 e6 => q H6 ((e14.trans e5).trans e6)
    | false =>
      show Q (.bl false) H4
      exact q H4 e14⟩
theorem et_chain {a b : Bool} (h : Ev (tChain r r' ta tb tc) σ H (.bl (a && b))) : EvT (tB (tChain r r' ta tb tc)) σ H (a && b) := et_B h
theorem ev_callN0 {m : Nat} {sp : Sp} {gV : List V → List V → List V} {E : XK} {tk : TA} {zs : List V} (h : EvA tk σ H zs) (hm : zs.length = m) (hs : SpV sp (gV [] zs) H z) : Ev (tCallN0 m sp gV E tk) σ H z :=
  fun H1 e Q q => h H1 e _ fun H2 e2 => ⟨hm, hs H2 (e.trans e2) Q (fun H3 e3 => q H3 (e2.trans e3)) E⟩
theorem rc_of {rc : List V → Hp → VK → Prop} {vs : List V} (h : ∀ H1, Ex H H1 → ∀ Q : VK, Q z H1 → rc vs H1 Q) : RC rc vs H z := fun H1 e Q q => h H1 e Q (q H1 (Ex.refl H1))
theorem tyx_l {a : Addr} {xs : List V} (h : SqL K H a xs) : TyX K H (.ref a) (.type "list") := by
  rcases h with (h | ⟨o, h⟩) | ⟨o, its, n, lk, hc, _⟩
  · exact .base (.lst h)
  · exact .base (.frz h)
  · exact .kList lk hc
theorem rc_isi {c : String} {tx : Value} {b : Bool} (ty : ∀ H1, Ex H H1 → TyX K H1 x tx) (h : PySem.W.kitOne K tx (.type c) = some b) : RC (rIsi K) [x, .ty c] H (.bl b) :=
  rc_of fun H1 e Q q => ⟨x, .ty c, tx, _, b, rfl, .ty c, ty H1 e, h, q⟩
theorem rc_isi_int {i : Int} {c : String} {b : Bool} (h : kitB "int" c = some b) : RC (rIsi K) [.int i, .ty c] H (.bl b) := rc_isi (fun _ _ => .base (.int i)) (kit_ty h)
theorem rc_isi_l {a : Addr} {xs : List V} {c : String} {b : Bool} (hs : SqL K H a xs) (h : kitB "list" c = some b) : RC (rIsi K) [.ref a, .ty c] H (.bl b) := rc_isi (fun _ e => tyx_l (ex_l e hs)) (kit_ty h)
theorem rc_all {a : Addr} {bs : List Bool} (hs : SqL K H a (bs.map V.bl)) : RC (rAll K) [.ref a] H (.bl (bs.all id)) := rc_of fun H1 e Q q => ⟨a, bs, rfl, ex_l e hs, q⟩
theorem rc_sum {a : Addr} {ns : List Int} (hs : SqL K H a (il ns)) : RC (rSum K) [.ref a] H (.int ns.sum) := rc_of fun H1 e Q q => ⟨a, ns, rfl, ex_l e hs, q⟩
theorem rc_len {a : Addr} {xs : List V} (hs : SqL K H a xs) : RC (fun xs H Q => ∃ p ys, xs = [.ref p] ∧ (SqL K H p ys ∨ SqT K H p ys) ∧ Q (.int ys.length) H) [.ref a] H (.int (xs.length : Int)) :=
  rc_of fun H1 e Q q => ⟨a, xs, rfl, .inl (ex_l e hs), q⟩
theorem rc_repr {d : PyData} (hx : Dp K H x d) (sy : Showy d) : RC (rRepr K) [x] H (.str d.shown) := rc_of fun H1 e Q q => ⟨x, d, rfl, Dp.mono e _ _ hx, sy, q⟩
theorem rc_intb {b : Bool} : RC (fun xs H Q => (∃ i, xs = [.int i] ∧ Q (.int i) H) ∨ ∃ k, xs = [.bl k] ∧ Q (.int (if k then 1 else 0)) H) [.bl b] H (.int (if b then 1 else 0)) :=
  rc_of fun H1 e Q q => .inr ⟨b, rfl, q⟩
theorem rc_abs {i : Int} : RC (fun xs H Q => ∃ i, xs = [.int i] ∧ Q (.int (if i < 0 then -i else i)) H) [.int i] H (.int (if i < 0 then -i else i)) := rc_of fun H1 e Q q => ⟨i, rfl, q⟩
theorem rc_max2 {i j : Int} : RC (fun xs H Q => ∃ i j, xs = [.int i, .int j] ∧ Q (.int (if j > i then j else i)) H) [.int i, .int j] H (.int (if j > i then j else i)) := rc_of fun H1 e Q q => ⟨i, j, rfl, q⟩
theorem rc_min2 {i j : Int} : RC (fun xs H Q => ∃ i j, xs = [.int i, .int j] ∧ Q (.int (if j < i then j else i)) H) [.int i, .int j] H (.int (if j < i then j else i)) := rc_of fun H1 e Q q => ⟨i, j, rfl, q⟩
/-- a call of one argument that is a new list: what the list's facts give -/
theorem ev_cbL {rc : List V → Hp → VK → Prop} {xs : List V} (h : EvL te σ H xs) (hr : ∀ p H1, H1 p = some (.lst xs) → Ex H H1 → RC rc [.ref p] H1 z) : Ev (tCB rc (tCons te tNil)) σ H z :=
  fun H1 e Q q => h H1 e _ fun p H2 _ e2 hp => hr p H2 hp (e.trans e2) H2 (Ex.refl H2) Q fun H3 e3 => q H3 (e2.trans e3)
/-- an operand, then a new list as the other one: the facts of the first at the base -/
theorem ev_ixNL {xs : List V} {i : Int} (ha : EvL ta σ H xs) (hb : ∀ H1, Ex H H1 → Ev tb σ H1 (.int i)) (hi : atI xs i = some z) : Ev (tOp (rIxL K) ta tb) σ H z :=
  ev_opL1 ha hb fun p H1 hp _ => rv_ixL (sq_of hp) hi
/-- a def's call whose one argument is a new list -/
theorem ev_callL {sp : Sp} {dvs xs : List V} {E : XK} {tr : TA} {vs : List V} (h : EvL te σ H xs) (hr : ∀ H1, Ex H H1 → EvA tr σ H1 vs)
    (hs : ∀ p H1, H1 p = some (.lst xs) → Ex H H1 → SpV sp (.ref p :: vs ++ dvs) H1 z) : Ev (tCall sp dvs E (tCons te tr)) σ H z :=
  fun H1 e Q q => h H1 e _ fun p H2 _ e2 hp => hr H2 (e.trans e2) H2 (Ex.refl H2) _ fun H3 e3 =>
    hs p H3 (e3 p _ hp) ((e.trans e2).trans e3) H3 (Ex.refl H3) Q (fun H4 e4 => q H4 ((e2.trans e3).trans e4)) E
theorem el_callL {sp : Sp} {dvs xs ys : List V} {E : XK} {tr : TA} {vs : List V} (h : EvL te σ H xs) (hr : ∀ H1, Ex H H1 → EvA tr σ H1 vs)
    (hs : ∀ p H1, H1 p = some (.lst xs) → Ex H H1 → SpL sp (.ref p :: vs ++ dvs) H1 ys) : EvL (tCall sp dvs E (tCons te tr)) σ H ys :=
  fun H1 e Q q => h H1 e _ fun p H2 _ e2 hp => hr H2 (e.trans e2) H2 (Ex.refl H2) _ fun H3 e3 =>
    hs p H3 (e3 p _ hp) ((e.trans e2).trans e3) H3 (Ex.refl H3) Q (fun r H4 hr e4 h4 => q r H4 (fresh_back (e2.trans e3) hr) ((e2.trans e3).trans e4) h4) E
theorem spv_retV {sp : Sp} {vs : List V} (h : ∀ H1, Ex H H1 → ∀ (Q : VK) (E : XK), RetV z H1 Q → sp vs H1 Q E) : SpV sp vs H z := fun H1 e Q q E => h H1 e Q E q
theorem spl_retL {sp : Sp} {vs xs : List V} (h : ∀ H1, Ex H H1 → ∀ (Q : VK) (E : XK), RetL xs H1 Q → sp vs H1 Q E) : SpL sp vs H xs := fun H1 e Q q E => h H1 e Q E q
end
end Hw

/-! Plain mathematics: columns, effective widths, borders and periods of words. -/
namespace Hw

/-! ### columns -/
def col (ws : List Nat) (p : Nat) : Nat := ws.foldl (fun a w => a % w) p
theorem col_nil (p : Nat) : col [] p = p := rfl
theorem col_cons (w : Nat) (ws : List Nat) (p : Nat) : col (w :: ws) p = col ws (p % w) := rfl
theorem col_append (a b : List Nat) (p : Nat) : col (a ++ b) p = col b (col a p) := by simp [col]
theorem col_snoc (a : List Nat) (w p : Nat) : col (a ++ [w]) p = col a p % w := by rw [col_append]; rfl
theorem col_le : ∀ (ws : List Nat) (p : Nat), col ws p ≤ p
  | [], p => Nat.le_refl p
  | w :: ws, p => Nat.le_trans (col_le ws (p % w)) (Nat.mod_le p w)
theorem col_small : ∀ (ws : List Nat) (p : Nat), (∀ w ∈ ws, p < w) → col ws p = p
  | [], _, _ => rfl
  | w :: ws, p, h => by
    rw [col_cons, Nat.mod_eq_of_lt (h w List.mem_cons_self)]
    exact col_small ws p fun x hx => h x (List.mem_cons_of_mem _ hx)
/-- every column is idempotent -/
def Pos (ws : List Nat) : Prop := ∀ w ∈ ws, 0 < w
theorem col_per (w : Nat) (ws : List Nat) (p : Nat) : col (w :: ws) (p + w) = col (w :: ws) p := by
  rw [col_cons, col_cons, Nat.add_mod_right]
theorem col_perMul (w : Nat) (ws : List Nat) (p k : Nat) : col (w :: ws) (p + w * k) = col (w :: ws) p := by
  rw [col_cons, col_cons, Nat.add_mul_mod_self_left]

/-! ### effective widths -/
def effStep (f : List Nat) (w : Nat) : List Nat := if f = [] ∨ w < f.getLastD 0 then f ++ [w] else f
def eff (ws : List Nat) : List Nat := ws.foldl effStep []
theorem eff_snoc (ws : List Nat) (w : Nat) : eff (ws ++ [w]) = effStep (eff ws) w := by simp [eff]
theorem effGo_mem : ∀ (ws acc : List Nat), ∀ x ∈ ws.foldl effStep acc, x ∈ acc ∨ x ∈ ws
  | [], acc, x, h => .inl h
  | w :: ws, acc, x, h => by
    rcases effGo_mem ws (effStep acc w) x h with q | q
    · unfold effStep at q
      split at q
      · rcases List.mem_append.mp q with q | q
        · exact .inl q
        · exact .inr (by rw [List.mem_singleton.mp q]; exact List.mem_cons_self)
      · exact .inl q
    · exact .inr (List.mem_cons_of_mem _ q)
theorem eff_mem {ws : List Nat} {x : Nat} (h : x ∈ eff ws) : x ∈ ws := by
  rcases effGo_mem ws [] x h with q | q
  · cases q
  · exact q
theorem effGo_len : ∀ (ws acc : List Nat), (ws.foldl effStep acc).length ≤ acc.length + ws.length
  | [], acc => by simp
  | w :: ws, acc => by
    have h := effGo_len ws (effStep acc w)
    have h2 : (effStep acc w).length ≤ acc.length + 1 := by
      unfold effStep
      split
      · simp
      · omega
    simp only [List.foldl_cons, List.length_cons]
    omega
theorem eff_len (ws : List Nat) : (eff ws).length ≤ ws.length := by
  have := effGo_len ws []
  simpa [eff] using this
theorem effGo_pre : ∀ (ws acc : List Nat), ∃ t, ws.foldl effStep acc = acc ++ t
  | [], acc => ⟨[], by simp⟩
  | w :: ws, acc => by
    obtain ⟨t, ht⟩ := effGo_pre ws (effStep acc w)
    unfold effStep at ht
    split at ht
    · exact ⟨[w] ++ t, by
        rw [List.foldl_cons]
        unfold effStep
        rw [if_pos (by assumption), ht, List.append_assoc]⟩
    · exact ⟨t, by
        rw [List.foldl_cons]
        unfold effStep
        rw [if_neg (by assumption), ht]⟩
theorem eff_cons (w : Nat) (ws : List Nat) : ∃ t, eff (w :: ws) = w :: t := by
  obtain ⟨t, ht⟩ := effGo_pre ws [w]
  refine ⟨t, ?_⟩
  show ws.foldl effStep (effStep [] w) = w :: t
  have : effStep [] w = [w] := by simp [effStep]
  rw [this, ht]
  rfl
theorem eff_nil : eff [] = [] := rfl
theorem eff_eq_nil {ws : List Nat} (h : eff ws = []) : ws = [] := by
  cases ws with
  | nil => rfl
  | cons w ws =>
    obtain ⟨t, ht⟩ := eff_cons w ws
    rw [ht] at h
    cases h
theorem col_lt_last {acc : List Nat} (hp : Pos acc) (hn : acc ≠ []) (p : Nat) : col acc p < acc.getLastD 0 := by
  rcases List.eq_nil_or_concat acc with e | ⟨l, m, e⟩
  · exact absurd e hn
  · rw [List.concat_eq_append] at e
    subst e
    rw [col_snoc]
    have : 0 < m := hp m (by simp)
    simpa using Nat.mod_lt _ this
theorem effGo_col : ∀ (ws acc : List Nat) (p : Nat), Pos acc → Pos ws → col (ws.foldl effStep acc) p = col ws (col acc p)
  | [], acc, p, _, _ => rfl
  | w :: ws, acc, p, ha, hw => by
    rw [List.foldl_cons, col_cons]
    have hw0 : 0 < w := hw w List.mem_cons_self
    have hws : Pos ws := fun x hx => hw x (List.mem_cons_of_mem _ hx)
    by_cases h : acc = [] ∨ w < acc.getLastD 0
    · have es : effStep acc w = acc ++ [w] := if_pos h
      rw [es, effGo_col ws (acc ++ [w]) p (fun x hx => by
        rcases List.mem_append.mp hx with q | q
        · exact ha x q
        · rw [List.mem_singleton.mp q]; exact hw0) hws, col_snoc]
    · have es : effStep acc w = acc := if_neg h
      have hn : acc ≠ [] := fun e => h (.inl e)
      have hl : ¬ w < acc.getLastD 0 := fun e => h (.inr e)
      have := col_lt_last ha hn p
      rw [es, effGo_col ws acc p ha hws, Nat.mod_eq_of_lt (by omega)]
theorem eff_col {ws : List Nat} (h : Pos ws) (p : Nat) : col (eff ws) p = col ws p := effGo_col ws [] p (fun _ q => by cases q) h
theorem eff_pos {ws : List Nat} (h : Pos ws) : Pos (eff ws) := fun x hx => h x (eff_mem hx)

/-! ### borders -/
def bord (f : Nat → Nat) (n b : Nat) : Prop := b < n ∧ ∀ i, i < b → f i = f (n - b + i)
def bordB (f : Nat → Nat) (n b : Nat) : Bool := (List.range b).all fun i => f i == f (n - b + i)
theorem bordB_iff {f : Nat → Nat} {n b : Nat} : bordB f n b = true ↔ ∀ i, i < b → f i = f (n - b + i) := by
  unfold bordB
  simp [List.all_eq_true]
def lbGo (f : Nat → Nat) (n : Nat) : Nat → Nat
  | 0 => 0
  | b + 1 => if bordB f n (b + 1) = true then b + 1 else lbGo f n b
/-- the longest proper border of the first n values -/
def lb (f : Nat → Nat) (n : Nat) : Nat := lbGo f n (n - 1)
theorem lbGo_le (f : Nat → Nat) (n : Nat) : ∀ b, lbGo f n b ≤ b
  | 0 => Nat.le_refl 0
  | b + 1 => by
    unfold lbGo
    split
    · exact Nat.le_refl _
    · exact Nat.le_succ_of_le (lbGo_le f n b)
theorem lbGo_bord (f : Nat → Nat) (n : Nat) : ∀ b, bordB f n (lbGo f n b) = true
  | 0 => by simp [lbGo, bordB]
  | b + 1 => by
    unfold lbGo
    split
    · assumption
    · exact lbGo_bord f n b
theorem lbGo_max (f : Nat → Nat) (n : Nat) : ∀ b c, c ≤ b → bordB f n c = true → c ≤ lbGo f n b
  | 0, c, h, _ => by
    have : c = 0 := by omega
    subst this
    exact Nat.zero_le _
  | b + 1, c, h, hb => by
    unfold lbGo
    split
    · exact h
    · rename_i hn
      by_cases e : c = b + 1
      · subst e
        exact absurd hb hn
      · exact lbGo_max f n b c (by omega) hb
theorem lb_bord {f : Nat → Nat} {n : Nat} (h : 1 ≤ n) : bord f n (lb f n) := by
  refine ⟨?_, bordB_iff.mp (lbGo_bord f n (n - 1))⟩
  have := lbGo_le f n (n - 1)
  unfold lb
  omega
theorem lb_max {f : Nat → Nat} {n b : Nat} (h : bord f n b) : b ≤ lb f n := lbGo_max f n (n - 1) b (by have := h.1; omega) (bordB_iff.mpr h.2)
theorem lb_zero (f : Nat → Nat) : lb f 0 = 0 := rfl
theorem lb_one (f : Nat → Nat) : lb f 1 = 0 := rfl
theorem lb_lt {f : Nat → Nat} {n : Nat} (h : 1 ≤ n) : lb f n < n := (lb_bord h).1
theorem lb_le (f : Nat → Nat) (n : Nat) : lb f n ≤ n := by
  have := lbGo_le f n (n - 1)
  unfold lb
  omega
theorem lb_eq {f : Nat → Nat} {n b : Nat} (h : bord f n b) (hm : ∀ c, bord f n c → c ≤ b) : lb f n = b :=
  Nat.le_antisymm (hm _ (lb_bord (by have := h.1; omega))) (lb_max h)
/-- two words that are alike up to n -/
theorem lb_congr {f g : Nat → Nat} {n : Nat} (h : ∀ i, i < n → f i = g i) : lb f n = lb g n := by
  by_cases hn : 1 ≤ n
  · refine lb_eq ?_ ?_
    · obtain ⟨h1, h2⟩ := lb_bord (f := g) hn
      exact ⟨h1, fun i hi => by rw [h i (by omega), h2 i hi, h _ (by omega)]⟩
    · intro c hc
      exact lb_max ⟨hc.1, fun i hi => by rw [← h i (by have := hc.1; omega), hc.2 i hi, h _ (by have := hc.1; omega)]⟩
  · have : n = 0 := by omega
    subst this
    rfl
/-- a border of a border is a border -/
theorem bord_trans {f : Nat → Nat} {n b c : Nat} (h : bord f n b) (h' : bord f b c) : bord f n c := by
  refine ⟨Nat.lt_trans h'.1 h.1, fun i hi => ?_⟩
  have h1 := h.1
  have h2 := h'.1
  rw [h'.2 i hi, h.2 (b - c + i) (by omega)]
  congr 1
  omega
/-- a shorter border of the whole is a border of a longer one -/
theorem bord_sub {f : Nat → Nat} {n b c : Nat} (h : bord f n b) (h' : bord f n c) (hl : c < b) : bord f b c := by
  refine ⟨hl, fun i hi => ?_⟩
  have h1 := h.1
  rw [h'.2 i hi, h.2 (b - c + i) (by omega)]
  congr 1
  omega
/-- a border of the word with one more value, one shorter -/
theorem bord_pred {f : Nat → Nat} {n b : Nat} (hn : 1 ≤ n) (h : bord f (n + 1) (b + 1)) : bord f n b ∧ f b = f n := by
  have h1 := h.1
  refine ⟨⟨by omega, fun i hi => ?_⟩, ?_⟩
  · rw [h.2 i (by omega)]
    congr 1
    omega
  · rw [h.2 b (by omega)]
    congr 1
    omega
theorem bord_succ {f : Nat → Nat} {n b : Nat} (h : bord f n b) (e : f b = f n) : bord f (n + 1) (b + 1) := by
  have h1 := h.1
  refine ⟨by omega, fun i hi => ?_⟩
  by_cases q : i = b
  · subst q
    rw [e]
    congr 1
    omega
  · rw [h.2 i (by omega)]
    congr 1
    omega
/-- the inner loop's word: border is a border of the first n values, and no longer one goes on -/
structure KmpIn (f : Nat → Nat) (n b : Nat) : Prop where
  bd : bord f n b
  up : ∀ c, bord f (n + 1) (c + 1) → c ≤ b
theorem kmp_start {f : Nat → Nat} {n : Nat} (hn : 1 ≤ n) : KmpIn f n (lb f n) := ⟨lb_bord hn, fun _ hc => lb_max (bord_pred hn hc).1⟩
theorem kmp_turn {f : Nat → Nat} {n b : Nat} (h : KmpIn f n b) (hb : 0 < b) (hne : f b ≠ f n) : KmpIn f n (lb f b) ∧ lb f b < b := by
  have hn : 1 ≤ n := by have := h.bd.1; omega
  have l := lb_bord (f := f) (n := b) hb
  refine ⟨⟨bord_trans h.bd l, fun c hc => ?_⟩, l.1⟩
  obtain ⟨h1, h2⟩ := bord_pred hn hc
  have h3 := h.up c hc
  have h4 : c ≠ b := fun e => hne (by rw [← e]; exact h2)
  exact lb_max (bord_sub h.bd h1 (by omega))
theorem kmp_end {f : Nat → Nat} {n b : Nat} (h : KmpIn f n b) (he : ¬ (0 < b ∧ f b ≠ f n)) : lb f (n + 1) = b + (if f b = f n then 1 else 0) := by
  have hn : 1 ≤ n := by have := h.bd.1; omega
  by_cases q : f b = f n
  · rw [if_pos q]
    refine lb_eq (bord_succ h.bd q) fun c hc => ?_
    cases c with
    | zero => omega
    | succ c => have := h.up c hc; omega
  · rw [if_neg q]
    have hb : b = 0 := by
      by_cases z : 0 < b
      · exact absurd ⟨z, q⟩ he
      · omega
    subst hb
    refine lb_eq ⟨by omega, fun i hi => by omega⟩ fun c hc => ?_
    cases c with
    | zero => omega
    | succ c =>
      have h0 := h.up c hc
      have : c = 0 := by omega
      subst this
      exact absurd (bord_pred hn hc).2 q

/-! ### periods -/
/-- p is a period of the first n values -/
def per (f : Nat → Nat) (n p : Nat) : Prop := 1 ≤ p ∧ ∀ x, x + p < n → f x = f (x + p)
/-- the least one -/
def lp (f : Nat → Nat) (n : Nat) : Nat := n - lb f n
theorem per_of_bord {f : Nat → Nat} {n b : Nat} (h : bord f n b) : per f n (n - b) := by
  have h1 := h.1
  refine ⟨by omega, fun x hx => ?_⟩
  rw [h.2 x (by omega), Nat.add_comm]
theorem bord_of_per {f : Nat → Nat} {n p : Nat} (h : per f n p) (hp : p ≤ n) : bord f n (n - p) := by
  have h1 := h.1
  refine ⟨by omega, fun i hi => ?_⟩
  rw [h.2 i (by omega)]
  congr 1
  omega
theorem lp_per {f : Nat → Nat} {n : Nat} (h : 1 ≤ n) : per f n (lp f n) := per_of_bord (lb_bord h)
theorem lp_pos {f : Nat → Nat} {n : Nat} (h : 1 ≤ n) : 1 ≤ lp f n := (lp_per h).1
theorem lp_le (f : Nat → Nat) (n : Nat) : lp f n ≤ n := by unfold lp; omega
theorem lp_min {f : Nat → Nat} {n p : Nat} (h : per f n p) (hn : 1 ≤ n) : lp f n ≤ p := by
  by_cases hp : p ≤ n
  · have := lb_max (bord_of_per h hp)
    unfold lp
    omega
  · have := lp_le f n
    omega
theorem lp_eq {f : Nat → Nat} {n p : Nat} (h : per f n p) (hp : p ≤ n) (hm : ∀ q, per f n q → p ≤ q) (hn : 1 ≤ n) : lp f n = p := Nat.le_antisymm (lp_min h hn) (hm _ (lp_per hn))
theorem lp_congr {f g : Nat → Nat} {n : Nat} (h : ∀ i, i < n → f i = g i) : lp f n = lp g n := by unfold lp; rw [lb_congr h]
/-- multiples of a period -/
theorem per_mul {f : Nat → Nat} {n p : Nat} (h : per f n p) : ∀ (k x : Nat), x + p * k < n → f x = f (x + p * k)
  | 0, x, _ => by simp
  | k + 1, x, hx => by
    have e : x + p * (k + 1) = (x + p * k) + p := by rw [Nat.mul_succ]; omega
    rw [e] at hx ⊢
    rw [per_mul h k x (by omega)]
    exact h.2 _ hx
theorem per_mod {f : Nat → Nat} {n p x : Nat} (h : per f n p) (hx : x < n) : f x = f (x % p) := by
  have e : x % p + p * (x / p) = x := Nat.mod_add_div x p
  have q := per_mul h (x / p) (x % p) (by rw [e]; exact hx)
  rw [e] at q
  exact q.symm
/-- two periods of a word that is as long as both together: their difference is one -/
theorem per_sub {f : Nat → Nat} {n p q : Nat} (h : per f n p) (h' : per f n q) (hl : p + q ≤ n) (hpq : p < q) : per f n (q - p) := by
  refine ⟨by omega, fun x hx => ?_⟩
  have h1 := h.1
  by_cases c : x + q < n
  · rw [h'.2 x c, h.2 (x + (q - p)) (by omega)]
    congr 1
    omega
  · have e1 := h.2 (x - p) (by omega)
    have e2 := h'.2 (x - p) (by omega)
    have e3 : x - p + p = x := by omega
    have e4 : x - p + q = x + (q - p) := by omega
    rw [e3] at e1
    rw [e4] at e2
    rw [← e1, e2]
theorem fine_wilf {f : Nat → Nat} : ∀ (m p q n : Nat), p + q ≤ m → per f n p → per f n q → p + q ≤ n → per f n (Nat.gcd p q)
  | 0, p, q, n, hm, h, h', _ => by have := h.1; have := h'.1; omega
  | m + 1, p, q, n, hm, h, h', hl => by
    have h1 := h.1
    have h2 := h'.1
    by_cases e : p = q
    · subst e
      rw [Nat.gcd_self]
      exact h
    · by_cases c : p < q
      · have d := per_sub h h' hl c
        have := fine_wilf m p (q - p) n (by omega) h d (by omega)
        rw [Nat.gcd_sub_self_right (by omega)] at this
        exact this
      · have d := per_sub h' h (by omega) (by omega)
        have := fine_wilf m (p - q) q n (by omega) d h' (by omega)
        rw [Nat.gcd_comm, Nat.gcd_sub_self_right (by omega), Nat.gcd_comm] at this
        exact this

/-! ### periods for ever -/
def perW (f : Nat → Nat) (p : Nat) : Prop := 1 ≤ p ∧ ∀ x, f x = f (x + p)
theorem perW.per {f : Nat → Nat} {p n : Nat} (h : perW f p) : per f n p := ⟨h.1, fun x _ => h.2 x⟩
theorem perW_mul {f : Nat → Nat} {p : Nat} (h : perW f p) (k x : Nat) : f (x + p * k) = f x := (per_mul (h.per (n := x + p * k + 1)) k x (by omega)).symm
theorem perW_mod {f : Nat → Nat} {p : Nat} (h : perW f p) (x : Nat) : f x = f (x % p) := per_mod (h.per (n := x + 1)) (by omega)
theorem perW_gcd {f : Nat → Nat} {p q : Nat} (h : perW f p) (h' : perW f q) : perW f (Nat.gcd p q) := by
  refine ⟨Nat.gcd_pos_of_pos_left _ h.1, fun x => ?_⟩
  have l : Nat.gcd p q ≤ p := Nat.gcd_le_left _ h.1
  exact (fine_wilf (p + q) p q (x + p + q + 1) (Nat.le_refl _) h.per h'.per (by omega)).2 x (by omega)
theorem perW_of_block {f : Nat → Nat} {W p : Nat} (hW : perW f W) (h : per f W p) (hd : W % p = 0) : perW f p := by
  have hp := h.1
  have hW1 := hW.1
  obtain ⟨k, hk⟩ : ∃ k, W = p * k := ⟨W / p, by rw [Nat.mul_div_cancel' (Nat.dvd_of_mod_eq_zero hd)]⟩
  have hb : ∀ y, f y = f (y % p) := fun y => by
    rw [perW_mod hW y, per_mod h (Nat.mod_lt _ hW1), hk, Nat.mod_mul_right_mod]
  refine ⟨hp, fun x => ?_⟩
  rw [hb x, hb (x + p), Nat.add_mod_right]
/-- the least period for ever, from a block W -/
def wp (f : Nat → Nat) (W : Nat) : Nat := if W % lp f W = 0 then lp f W else W
theorem wp_per {f : Nat → Nat} {W : Nat} (h : perW f W) : perW f (wp f W) := by
  unfold wp
  split
  · exact perW_of_block h (lp_per h.1) (by assumption)
  · exact h
theorem wp_le {f : Nat → Nat} {W : Nat} : wp f W ≤ W := by
  unfold wp
  split
  · exact lp_le f W
  · exact Nat.le_refl W
theorem wp_min {f : Nat → Nat} {W q : Nat} (h : perW f W) (hq : perW f q) : wp f W ≤ q := by
  have g := perW_gcd h hq
  have gd : Nat.gcd W q ∣ W := Nat.gcd_dvd_left _ _
  have gq : Nat.gcd W q ≤ q := Nat.gcd_le_right _ hq.1
  refine Nat.le_trans ?_ gq
  have W1 := h.1
  have l1 := lp_min (n := W) g.per W1
  unfold wp
  split
  · exact l1
  · rename_i hd
    -- the block's least period does not divide it: no period for ever is shorter
    have gW : Nat.gcd W q ≤ W := Nat.gcd_le_left _ W1
    by_cases c : Nat.gcd W q = W
    · omega
    · exfalso
      obtain ⟨k, hk⟩ := gd
      have k2 : 2 ≤ k := by
        rcases k with _ | _ | k
        · omega
        · omega
        · omega
      have h2 : Nat.gcd W q + Nat.gcd W q ≤ W := by
        have : Nat.gcd W q * 2 ≤ Nat.gcd W q * k := Nat.mul_le_mul_left _ k2
        omega
      have d := fine_wilf _ _ _ W (Nat.le_refl _) (lp_per W1) (g.per (n := W)) (by omega)
      have d1 : Nat.gcd (lp f W) (Nat.gcd W q) ∣ W := Nat.dvd_trans (Nat.gcd_dvd_right _ _) ⟨k, hk⟩
      have d2 := lp_min d W1
      have d3 : Nat.gcd (lp f W) (Nat.gcd W q) ≤ lp f W := Nat.gcd_le_left _ (lp_pos W1)
      have d4 : lp f W = Nat.gcd (lp f W) (Nat.gcd W q) := by omega
      exact hd (Nat.mod_eq_zero_of_dvd (by rw [d4]; exact d1))
theorem wp_dvd {f : Nat → Nat} {W q : Nat} (h : perW f W) (hq : perW f q) : wp f W ∣ q := by
  have p := wp_per h
  have g := perW_gcd p hq
  have l := wp_min h g
  have l2 : Nat.gcd (wp f W) q ≤ wp f W := Nat.gcd_le_left _ p.1
  have e : Nat.gcd (wp f W) q = wp f W := by omega
  rw [← e]
  exact Nat.gcd_dvd_right _ _

/-! ### the columns' periods -/
theorem col_perW {w : Nat} {ws : List Nat} (h : 0 < w) : perW (col (w :: ws)) w := ⟨h, fun x => (col_per w ws x).symm⟩
def wholeO (ws : List Nat) : Option Nat := match ws with
  | [] => none
  | w :: _ => some (wp (col ws) w)
/-- the first number below n of which g is true -/
def firstN (g : Nat → Bool) (n : Nat) : Option Nat := (List.range n).find? g
theorem firstN_none {g : Nat → Bool} {n : Nat} : firstN g n = none ↔ ∀ i, i < n → g i = false := by
  unfold firstN
  rw [List.find?_eq_none]
  constructor
  · intro h i hi
    have := h i (List.mem_range.mpr hi)
    simpa using this
  · intro h i hi
    have := h i (List.mem_range.mp hi)
    simp [this]
theorem firstN_some {g : Nat → Bool} {n i : Nat} (hi : i < n) (h : g i = true) (hb : ∀ j, j < i → g j = false) : firstN g n = some i := by
  unfold firstN
  rw [List.find?_range_eq_some]
  exact ⟨h, List.mem_range.mpr hi, fun j hj => by simp [hb j hj]⟩
theorem firstN_get {g : Nat → Bool} {n i : Nat} (h : firstN g n = some i) : i < n ∧ g i = true ∧ ∀ j, j < i → g j = false := by
  unfold firstN at h
  rw [List.find?_range_eq_some] at h
  obtain ⟨h1, h2, h3⟩ := h
  exact ⟨List.mem_range.mp h2, h1, fun j hj => by simpa using h3 j hj⟩
def differs (ws : List Nat) (s i : Nat) : Bool := decide (col ws (s + i) ≠ col ws i)
def overlapO (ws : List Nat) (s : Nat) : Option Nat := match wholeO ws with
  | none => if s = 0 then none else some 0
  | some p => firstN (differs ws s) p
/-- as the law finds it: place by place, for as many places as the first width has -/
def lawOverlapO (ws : List Nat) (s : Nat) : Option Nat := match ws with
  | [] => if s = 0 then none else some 0
  | w :: _ => firstN (differs ws s) w
/-- a search in a periodic row needs one period -/
theorem firstN_per {g : Nat → Bool} {p n : Nat} (hp : 1 ≤ p) (hl : p ≤ n) (h : ∀ i, g i = g (i % p)) : firstN g p = firstN g n := by
  cases e : firstN g p with
  | none =>
    have e' := firstN_none.mp e
    exact (firstN_none.mpr fun i hi => by rw [h i]; exact e' _ (Nat.mod_lt _ hp)).symm
  | some i =>
    obtain ⟨h1, h2, h3⟩ := firstN_get e
    exact (firstN_some (by omega) h2 h3).symm
theorem differs_mod {ws : List Nat} {p s : Nat} (h : perW (col ws) p) (i : Nat) : differs ws s i = differs ws s (i % p) := by
  unfold differs
  have e1 : col ws (s + i) = col ws (s + i % p) := by
    rw [perW_mod h (s + i), perW_mod h (s + i % p), Nat.add_mod_mod]
  rw [e1, perW_mod h i]
theorem wholeO_cons {w : Nat} {ws : List Nat} : wholeO (w :: ws) = some (wp (col (w :: ws)) w) := rfl
theorem overlap_law {ws : List Nat} (hp : Pos ws) (s : Nat) : overlapO (eff ws) s = lawOverlapO ws s := by
  cases ws with
  | nil => rfl
  | cons w ws =>
    obtain ⟨t, ht⟩ := eff_cons w ws
    have hw : 0 < w := hp w List.mem_cons_self
    have hc : ∀ p, col (w :: t) p = col (w :: ws) p := fun p => by rw [← ht]; exact eff_col hp p
    have hd : ∀ i, differs (w :: t) s i = differs (w :: ws) s i := fun i => by unfold differs; rw [hc, hc]
    unfold overlapO
    rw [ht, wholeO_cons]
    show firstN (differs (w :: t) s) _ = firstN (differs (w :: ws) s) w
    have pw := wp_per (col_perW (ws := t) hw)
    rw [firstN_per pw.1 wp_le (differs_mod pw)]
    have : differs (w :: t) s = differs (w :: ws) s := funext hd
    rw [this]
theorem overlap_none_iff {ws : List Nat} {p : Nat} (hp : Pos ws) (hw : wholeO ws = some p) (s : Nat) : overlapO ws s = none ↔ s % p = 0 := by
  cases ws with
  | nil => cases hw
  | cons w t =>
    have w0 : 0 < w := hp w List.mem_cons_self
    have e : wp (col (w :: t)) w = p := Option.some.inj hw
    have pw := wp_per (col_perW (ws := t) w0)
    rw [e] at pw
    unfold overlapO
    rw [hw]
    show firstN _ p = none ↔ _
    rw [firstN_none]
    constructor
    · intro h
      by_cases s0 : s = 0
      · subst s0
        simp
      · have ps : perW (col (w :: t)) s := ⟨by omega, fun x => by
          have := h (x % p) (Nat.mod_lt _ pw.1)
          unfold differs at this
          have h2 : col (w :: t) (s + x % p) = col (w :: t) (x % p) := by simpa using this
          rw [perW_mod pw x, ← h2, perW_mod pw (x + s), perW_mod pw (s + x % p), Nat.add_mod_mod, Nat.add_comm]⟩
        have := wp_dvd (col_perW (ws := t) w0) ps
        rw [e] at this
        exact Nat.mod_eq_zero_of_dvd this
    · intro h i _
      unfold differs
      have : col (w :: t) (s + i) = col (w :: t) i := by
        obtain ⟨k, hk⟩ := Nat.dvd_of_mod_eq_zero h
        rw [hk, Nat.add_comm, perW_mul pw]
      simp [this]
theorem lawOverlap_none {ws : List Nat} {s : Nat} (hp : Pos ws) (h : lawOverlapO ws s = none) (i : Nat) : col ws (s + i) = col ws i := by
  cases ws with
  | nil =>
    have : s = 0 := by
      unfold lawOverlapO at h
      by_cases z : s = 0
      · exact z
      · simp [z] at h
    subst this
    rw [Nat.zero_add]
  | cons w t =>
    have w0 : 0 < w := hp w List.mem_cons_self
    have pw := col_perW (ws := t) w0
    have h2 := firstN_none.mp (show firstN (differs (w :: t) s) w = none from h) (i % w) (Nat.mod_lt _ w0)
    unfold differs at h2
    have h3 : col (w :: t) (s + i % w) = col (w :: t) (i % w) := by simpa using h2
    rw [perW_mod pw i, ← h3, perW_mod pw (s + i), perW_mod pw (s + i % w), Nat.add_mod_mod]
theorem lawOverlap_some {ws : List Nat} {s d : Nat} (h : lawOverlapO ws s = some d) :
    (∀ i, i < d → col ws (s + i) = col ws i) ∧ col ws (s + d) ≠ col ws d ∧ (∀ B, (∀ x ∈ ws, x ≤ B) → d ≤ B) := by
  cases ws with
  | nil =>
    unfold lawOverlapO at h
    by_cases z : s = 0
    · simp [z] at h
    · have e : (0 : Nat) = d := by simpa [z] using h
      subst e
      exact ⟨fun i hi => by omega, by rw [col_nil, col_nil]; omega, fun B _ => Nat.zero_le B⟩
  | cons w t =>
    obtain ⟨h1, h2, h3⟩ := firstN_get (show firstN (differs (w :: t) s) w = some d from h)
    refine ⟨fun i hi => ?_, ?_, fun B hB => ?_⟩
    · have := h3 i hi
      unfold differs at this
      simpa using this
    · unfold differs at h2
      simpa using h2
    · have := hB w List.mem_cons_self
      omega
end Hw

namespace Lw
open PySem PySem.Spec PyProof.Rows L2 Evl Hw
def top (i : Nat) : Stmt := PySem.Challenge.pw_hardwraps_k14_overlaps.main.body.getD i (.Pass ⟨0, 0, 0, 0⟩)
abbrev s_is_integer : Stmt := top 9
theorem sc_is_integer : FnScope ["value", "low", "high"] ["value", "low", "high"] (defScope s_is_integer) :=
  ⟨rfl, rfl, rfl, by decide +kernel, rfl, by decide +kernel, by decide +kernel⟩
abbrev s_is_width : Stmt := top 10
theorem sc_is_width : FnScope ["value"] ["value"] (defScope s_is_width) :=
  ⟨rfl, rfl, rfl, by decide +kernel, rfl, by decide +kernel, by decide +kernel⟩
abbrev s_is_widths : Stmt := top 11
theorem sc_is_widths : FnScope ["value", "width"] ["value"] (defScope s_is_widths) :=
  ⟨rfl, rfl, rfl, by decide +kernel, rfl, by decide +kernel, by decide +kernel⟩
abbrev s_require_widths : Stmt := top 12
theorem sc_require_widths : FnScope ["widths"] ["widths"] (defScope s_require_widths) :=
  ⟨rfl, rfl, rfl, by decide +kernel, rfl, by decide +kernel, by decide +kernel⟩
abbrev s_require_position : Stmt := top 13
theorem sc_require_position : FnScope ["position"] ["position"] (defScope s_require_position) :=
  ⟨rfl, rfl, rfl, by decide +kernel, rfl, by decide +kernel, by decide +kernel⟩
abbrev s_require_length : Stmt := top 14
theorem sc_require_length : FnScope ["length", "least", "greatest"] ["length", "least", "greatest"] (defScope s_require_length) :=
  ⟨rfl, rfl, rfl, by decide +kernel, rfl, by decide +kernel, by decide +kernel⟩
abbrev s_column_of : Stmt := top 15
theorem sc_column_of : FnScope ["widths", "position", "width"] ["widths", "position"] (defScope s_column_of) :=
  ⟨rfl, rfl, rfl, by decide +kernel, rfl, by decide +kernel, by decide +kernel⟩
abbrev s_effective_of : Stmt := top 16
theorem sc_effective_of : FnScope ["widths", "found", "width"] ["widths"] (defScope s_effective_of) :=
  ⟨rfl, rfl, rfl, by decide +kernel, rfl, by decide +kernel, by decide +kernel⟩
abbrev s_column : Stmt := top 17
theorem sc_column : FnScope ["widths", "position"] ["widths", "position"] (defScope s_column) :=
  ⟨rfl, rfl, rfl, by decide +kernel, rfl, by decide +kernel, by decide +kernel⟩
abbrev s_columns : Stmt := top 18
theorem sc_columns : FnScope ["widths", "length", "position"] ["widths", "length"] (defScope s_columns) :=
  ⟨rfl, rfl, rfl, by decide +kernel, rfl, by decide +kernel, by decide +kernel⟩
abbrev s_border_lengths : Stmt := top 20
theorem sc_border_lengths : FnScope ["values", "found", "end", "border"] ["values"] (defScope s_border_lengths) :=
  ⟨rfl, rfl, rfl, by decide +kernel, rfl, by decide +kernel, by decide +kernel⟩
abbrev s_least_period_of : Stmt := top 21
theorem sc_least_period_of : FnScope ["values"] ["values"] (defScope s_least_period_of) :=
  ⟨rfl, rfl, rfl, by decide +kernel, rfl, by decide +kernel, by decide +kernel⟩
abbrev s_first_columns : Stmt := top 22
theorem sc_first_columns : FnScope ["widths", "length", "position"] ["widths", "length"] (defScope s_first_columns) :=
  ⟨rfl, rfl, rfl, by decide +kernel, rfl, by decide +kernel, by decide +kernel⟩
abbrev s_whole_period : Stmt := top 23
theorem sc_whole_period : FnScope ["widths", "least"] ["widths"] (defScope s_whole_period) :=
  ⟨rfl, rfl, rfl, by decide +kernel, rfl, by decide +kernel, by decide +kernel⟩
abbrev s_overlap_of : Stmt := top 24
theorem sc_overlap_of : FnScope ["widths", "shift", "whole", "step"] ["widths", "shift"] (defScope s_overlap_of) :=
  ⟨rfl, rfl, rfl, by decide +kernel, rfl, by decide +kernel, by decide +kernel⟩
abbrev s_overlap : Stmt := top 25
theorem sc_overlap : FnScope ["widths", "shift"] ["widths", "shift"] (defScope s_overlap) :=
  ⟨rfl, rfl, rfl, by decide +kernel, rfl, by decide +kernel, by decide +kernel⟩
abbrev s_least_period : Stmt := top 26
theorem sc_least_period : FnScope ["widths"] ["widths"] (defScope s_least_period) :=
  ⟨rfl, rfl, rfl, by decide +kernel, rfl, by decide +kernel, by decide +kernel⟩
abbrev s__law_numbers : Stmt := top 28
theorem sc__law_numbers : FnScope ["script", "k", "cell"] ["script", "k"] (defScope s__law_numbers) :=
  ⟨rfl, rfl, rfl, by decide +kernel, rfl, by decide +kernel, by decide +kernel⟩
abbrev s__law_pick : Stmt := top 29
theorem sc__law_pick : FnScope ["numbers", "bound", "digit", "mixed"] ["numbers", "bound"] (defScope s__law_pick) :=
  ⟨rfl, rfl, rfl, by decide +kernel, rfl, by decide +kernel, by decide +kernel⟩
abbrev s__law_plan : Stmt := top 30
theorem sc__law_plan : FnScope ["numbers", "most", "wide", "found", "turn", "near", "made"] ["numbers", "most", "wide"] (defScope s__law_plan) :=
  ⟨rfl, rfl, rfl, by decide +kernel, rfl, by decide +kernel, by decide +kernel⟩
abbrev s__law_overlap : Stmt := top 31
theorem sc__law_overlap : FnScope ["plan", "lag", "place"] ["plan", "lag"] (defScope s__law_overlap) :=
  ⟨rfl, rfl, rfl, by decide +kernel, rfl, by decide +kernel, by decide +kernel⟩
abbrev s_law : Stmt := top 32
theorem sc_law : FnScope ["script", "k", "numbers", "turn", "plan", "kept", "short", "lag", "due", "far", "near", "great", "step"] ["script"] (defScope s_law) :=
  ⟨rfl, rfl, rfl, by decide +kernel, rfl, by decide +kernel, by decide +kernel⟩
/-- what stands behind the top -/
structure Env (K : PySem.W.Frag) (mg : Str → Option Value) : Prop where
  g_is_integer : mg "is_integer" = some (.ref (He.ga K "is_integer"))
  g_is_width : mg "is_width" = some (.ref (He.ga K "is_width"))
  g_is_widths : mg "is_widths" = some (.ref (He.ga K "is_widths"))
  g_require_widths : mg "require_widths" = some (.ref (He.ga K "require_widths"))
  g_require_position : mg "require_position" = some (.ref (He.ga K "require_position"))
  g_require_length : mg "require_length" = some (.ref (He.ga K "require_length"))
  g_column_of : mg "column_of" = some (.ref (He.ga K "column_of"))
  g_effective_of : mg "effective_of" = some (.ref (He.ga K "effective_of"))
  g_column : mg "column" = some (.ref (He.ga K "column"))
  g_columns : mg "columns" = some (.ref (He.ga K "columns"))
  g_border_lengths : mg "border_lengths" = some (.ref (He.ga K "border_lengths"))
  g_least_period_of : mg "least_period_of" = some (.ref (He.ga K "least_period_of"))
  g_first_columns : mg "first_columns" = some (.ref (He.ga K "first_columns"))
  g_whole_period : mg "whole_period" = some (.ref (He.ga K "whole_period"))
  g_overlap_of : mg "overlap_of" = some (.ref (He.ga K "overlap_of"))
  g_overlap : mg "overlap" = some (.ref (He.ga K "overlap"))
  g_least_period : mg "least_period" = some (.ref (He.ga K "least_period"))
  g__law_numbers : mg "_law_numbers" = some (.ref (He.ga K "_law_numbers"))
  g__law_pick : mg "_law_pick" = some (.ref (He.ga K "_law_pick"))
  g__law_plan : mg "_law_plan" = some (.ref (He.ga K "_law_plan"))
  g__law_overlap : mg "_law_overlap" = some (.ref (He.ga K "_law_overlap"))
  g_law : mg "law" = some (.ref (He.ga K "law"))
  d_is_integer : ∃ fd, FunD K "is_integer" "is_integer" (defArgs s_is_integer) (defBody s_is_integer) (defScope s_is_integer) [] [] (He.ga K "is_integer") fd
  d_is_width : ∃ fd, FunD K "is_width" "is_width" (defArgs s_is_width) (defBody s_is_width) (defScope s_is_width) [] [] (He.ga K "is_width") fd
  d_is_widths : ∃ fd, FunD K "is_widths" "is_widths" (defArgs s_is_widths) (defBody s_is_widths) (defScope s_is_widths) [] [] (He.ga K "is_widths") fd
  d_require_widths : ∃ fd, FunD K "require_widths" "require_widths" (defArgs s_require_widths) (defBody s_require_widths) (defScope s_require_widths) [] [] (He.ga K "require_widths") fd
  d_require_position : ∃ fd, FunD K "require_position" "require_position" (defArgs s_require_position) (defBody s_require_position) (defScope s_require_position) [] [] (He.ga K "require_position") fd
  d_require_length : ∃ fd, FunD K "require_length" "require_length" (defArgs s_require_length) (defBody s_require_length) (defScope s_require_length) [.int 0, .int 1000000000000000000000000000000] [] (He.ga K "require_length") fd
  d_column_of : ∃ fd, FunD K "column_of" "column_of" (defArgs s_column_of) (defBody s_column_of) (defScope s_column_of) [] [] (He.ga K "column_of") fd
  d_effective_of : ∃ fd, FunD K "effective_of" "effective_of" (defArgs s_effective_of) (defBody s_effective_of) (defScope s_effective_of) [] [] (He.ga K "effective_of") fd
  d_column : ∃ fd, FunD K "column" "column" (defArgs s_column) (defBody s_column) (defScope s_column) [] [] (He.ga K "column") fd
  d_columns : ∃ fd, FunD K "columns" "columns" (defArgs s_columns) (defBody s_columns) (defScope s_columns) [] [] (He.ga K "columns") fd
  d_border_lengths : ∃ fd, FunD K "border_lengths" "border_lengths" (defArgs s_border_lengths) (defBody s_border_lengths) (defScope s_border_lengths) [] [] (He.ga K "border_lengths") fd
  d_least_period_of : ∃ fd, FunD K "least_period_of" "least_period_of" (defArgs s_least_period_of) (defBody s_least_period_of) (defScope s_least_period_of) [] [] (He.ga K "least_period_of") fd
  d_first_columns : ∃ fd, FunD K "first_columns" "first_columns" (defArgs s_first_columns) (defBody s_first_columns) (defScope s_first_columns) [] [] (He.ga K "first_columns") fd
  d_whole_period : ∃ fd, FunD K "whole_period" "whole_period" (defArgs s_whole_period) (defBody s_whole_period) (defScope s_whole_period) [] [] (He.ga K "whole_period") fd
  d_overlap_of : ∃ fd, FunD K "overlap_of" "overlap_of" (defArgs s_overlap_of) (defBody s_overlap_of) (defScope s_overlap_of) [] [] (He.ga K "overlap_of") fd
  d_overlap : ∃ fd, FunD K "overlap" "overlap" (defArgs s_overlap) (defBody s_overlap) (defScope s_overlap) [] [] (He.ga K "overlap") fd
  d_least_period : ∃ fd, FunD K "least_period" "least_period" (defArgs s_least_period) (defBody s_least_period) (defScope s_least_period) [] [] (He.ga K "least_period") fd
  d__law_numbers : ∃ fd, FunD K "_law_numbers" "_law_numbers" (defArgs s__law_numbers) (defBody s__law_numbers) (defScope s__law_numbers) [] [] (He.ga K "_law_numbers") fd
  d__law_pick : ∃ fd, FunD K "_law_pick" "_law_pick" (defArgs s__law_pick) (defBody s__law_pick) (defScope s__law_pick) [] [] (He.ga K "_law_pick") fd
  d__law_plan : ∃ fd, FunD K "_law_plan" "_law_plan" (defArgs s__law_plan) (defBody s__law_plan) (defScope s__law_plan) [] [] (He.ga K "_law_plan") fd
  d__law_overlap : ∃ fd, FunD K "_law_overlap" "_law_overlap" (defArgs s__law_overlap) (defBody s__law_overlap) (defScope s__law_overlap) [] [] (He.ga K "_law_overlap") fd
  d_law : ∃ fd, FunD K "law" "law" (defArgs s_law) (defBody s_law) (defScope s_law) [] [] (He.ga K "law") fd
  c_MAX_WIDTH : ∃ t, mg "MAX_WIDTH" = some (.int 10000 t)
  c_MAX_LENGTH : ∃ t, mg "MAX_LENGTH" = some (.int 1000000000000000000000000000000 t)
  c_MAX_COLUMNS : ∃ t, mg "MAX_COLUMNS" = some (.int 1000 t)
  g_WrapError : mg "WrapError" = some (.ref (He.ga K "WrapError"))
  g_InvalidWidths : mg "InvalidWidths" = some (.ref (He.ga K "InvalidWidths"))
  g_InvalidPosition : mg "InvalidPosition" = some (.ref (He.ga K "InvalidPosition"))
  g_InvalidLength : mg "InvalidLength" = some (.ref (He.ga K "InvalidLength"))
  n_len : mg "len" = none
  n_range : mg "range" = none
  n_isinstance : mg "isinstance" = none
  n_int : mg "int" = none
  n_list : mg "list" = none
  n_bool : mg "bool" = none
  n_all : mg "all" = none
  n_sum : mg "sum" = none
  n_max : mg "max" = none
  n_min : mg "min" = none
  n_abs : mg "abs" = none
  n_repr : mg "repr" = none
  n_ValueError : mg "ValueError" = none

/-! ### module wrapping -/
section
variable {P : Program} {w : World} {K : PySem.W.Frag} {mg : Str → Option Value} {base : Heap}
def Wd (ws : List Nat) : Prop := ∀ x ∈ ws, 0 < x ∧ x ≤ 10000
theorem Wd.pos {ws : List Nat} (h : Wd ws) : Pos ws := fun x hx => (h x hx).1
def sp_is_integer (K : PySem.W.Frag) : Sp := fun vs H Q _ => ∃ x lo hi : Int, vs = [.int x, .int lo, .int hi] ∧ RetV (.bl (decide (lo ≤ x) && decide (x ≤ hi))) H Q
theorem ok_is_integer (T : Env K mg) : Callee P w K mg base CX0 1 "is_integer" ["value", "low", "high"] [] (sp_is_integer K) := by
  refine callee_of T.g_is_integer T.d_is_integer sc_is_integer (fun _ _ _ _ _ _ us hl => match us, hl with | [_, _, _], _ => rfl) (fun vs H Q E h => by first | (obtain ⟨rfl, _⟩ := h; rfl) | (obtain ⟨_, rfl, _⟩ := h; rfl) | (obtain ⟨_, _, rfl, _⟩ := h; rfl) | (obtain ⟨_, _, _, rfl, _⟩ := h; rfl) | (obtain ⟨_, _, _, _, rfl, _⟩ := h; rfl) | (obtain ⟨_, _, _, _, _, rfl, _⟩ := h; rfl) | (obtain ⟨_, _, _, _, _, _, rfl, _⟩ := h; rfl) | (obtain ⟨_, _, _, _, _, _, _, rfl, _⟩ := h; rfl) | (obtain ⟨_, _, _, _, _, _, _, _, rfl, _⟩ := h; rfl)) ?_
  intro cdv f A outer s H vs Q E hr h
  refine ⟨_, (pss_one (ps_ret (pe_and (pe_callB call_isi (by rfl) T.n_isinstance (by decide +kernel) (pa_cons (pv 0) (pa_cons (pe_bltn (v := .ty "int") (by rfl) T.n_int (by decide +kernel) rfl) pa_nil))) (pe_and (pe_not (pe_callB call_isi (by rfl) T.n_isinstance (by decide +kernel) (pa_cons (pv 0) (pa_cons (pe_bltn (v := .ty "bool") (by rfl) T.n_bool (by decide +kernel) rfl) pa_nil)))) (pe_one (pe_chain op_le op_le (pv 1) (pv 0) (pv 2))))))), ?_⟩
  obtain ⟨x, lo, hi, rfl, q⟩ := h
  refine s_ret (v := .bl (true && (!false && (decide (lo ≤ x) && decide (x ≤ hi))))) ?_ q
  refine ev_andV ?_ fun _ => ev_andV (ev_notV ?_) fun _ => ?_
  · refine ev_cb (ea_cons (ev_var rfl) (ea_cons ev_c ea_nil)) (rc_isi_int (by decide +kernel))
  · refine ev_cb (ea_cons (ev_var rfl) (ea_cons ev_c ea_nil)) (rc_isi_int (by decide +kernel))
  · exact ev_chain (ev_var rfl) (ev_var rfl) rv_I0 fun _ => ⟨ev_var rfl, rv_I0⟩
def sp_is_width (K : PySem.W.Frag) : Sp := fun vs H Q _ => ∃ x : Int, vs = [.int x] ∧ RetV (.bl (decide (1 ≤ x) && decide (x ≤ 10000))) H Q
theorem ok_is_width (T : Env K mg) : Callee P w K mg base CX0 2 "is_width" ["value"] [] (sp_is_width K) := by
  have C_is_integer := ok_is_integer (P := P) (w := w) (base := base) T
  refine callee_of T.g_is_width T.d_is_width sc_is_width (fun _ _ _ _ _ _ us hl => match us, hl with | [_], _ => rfl) (fun vs H Q E h => by first | (obtain ⟨rfl, _⟩ := h; rfl) | (obtain ⟨_, rfl, _⟩ := h; rfl) | (obtain ⟨_, _, rfl, _⟩ := h; rfl) | (obtain ⟨_, _, _, rfl, _⟩ := h; rfl) | (obtain ⟨_, _, _, _, rfl, _⟩ := h; rfl) | (obtain ⟨_, _, _, _, _, rfl, _⟩ := h; rfl) | (obtain ⟨_, _, _, _, _, _, rfl, _⟩ := h; rfl) | (obtain ⟨_, _, _, _, _, _, _, rfl, _⟩ := h; rfl) | (obtain ⟨_, _, _, _, _, _, _, _, rfl, _⟩ := h; rfl)) ?_
  intro cdv f A outer s H vs Q E hr h
  refine ⟨_, (pss_one (ps_ret (Hw.pe_cc C_is_integer (hr.mono (by decide)) (by rfl) pass0 (pa_cons (pv 0) (pa_cons pe_int (pa_cons (pe_glob (v := .int 10000) (by rfl) T.c_MAX_WIDTH.choose_spec ⟨_, rfl⟩) pa_nil)))))), ?_⟩
  obtain ⟨x, rfl, q⟩ := h
  exact s_ret (ev_call (ea_cons (ev_var rfl) (ea_cons ev_c (ea_cons ev_c ea_nil))) (spv_retV fun H1 e Q E k => ⟨_, _, _, rfl, k⟩)) q
def sp_is_widths (K : PySem.W.Frag) : Sp := fun vs H Q _ => ∃ (a : Addr) (ws : List Nat), vs = [.ref a] ∧ SqL K H a (nl ws) ∧ Wd ws ∧ ws.length ≤ 1000 ∧ RetV (.bl true) H Q
theorem et_yes {σ : L2.St} {H : Hp} : EvT tYes σ H true := fun H1 _ _ q => q H1 (Ex.refl H1)
theorem given_all (n : Nat) (v : Nat → V) : given n (fun _ => true) v = (List.range n).map v := by
  unfold given
  rw [List.filter_eq_self.mpr (by simp)]
theorem ok_is_widths (T : Env K mg) : Callee P w K mg base CX0 3 "is_widths" ["value"] [] (sp_is_widths K) := by
  have C_is_width := ok_is_width (P := P) (w := w) (base := base) T
  refine callee_of T.g_is_widths T.d_is_widths sc_is_widths (fun _ _ _ _ _ _ us hl => match us, hl with | [_], _ => rfl) (fun vs H Q E h => by first | (obtain ⟨rfl, _⟩ := h; rfl) | (obtain ⟨_, rfl, _⟩ := h; rfl) | (obtain ⟨_, _, rfl, _⟩ := h; rfl) | (obtain ⟨_, _, _, rfl, _⟩ := h; rfl) | (obtain ⟨_, _, _, _, rfl, _⟩ := h; rfl) | (obtain ⟨_, _, _, _, _, rfl, _⟩ := h; rfl) | (obtain ⟨_, _, _, _, _, _, rfl, _⟩ := h; rfl) | (obtain ⟨_, _, _, _, _, _, _, rfl, _⟩ := h; rfl) | (obtain ⟨_, _, _, _, _, _, _, _, rfl, _⟩ := h; rfl)) ?_
  intro cdv f A outer s H vs Q E hr h
  refine ⟨_, (pss_one (ps_ret (pe_and (pe_callB call_isi (by rfl) T.n_isinstance (by decide +kernel) (pa_cons (pv 0) (pa_cons (pe_bltn (v := .ty "list") (by rfl) T.n_list (by decide +kernel) rfl) pa_nil))) (pe_one (pe_callB (cr_all rfl) (by rfl) T.n_all (by decide +kernel) (pa_cons (pe_lc (own := [("width", 1)]) (g := gName 1) rfl sc_is_widths.nd (pi_list (pv 0)) (blkOk_by (own := [("width", 1)]) (N := ["value", "width"]) (sc := (defScope s_is_widths)) (by decide +kernel)) (fun _ _ _ _ _ => (pg_name (i := 1) sc_is_widths.nd rfl (Or.inl rfl))) (fun _ _ _ _ _ => pts_nil) (fun _ _ _ _ _ => (Hw.pe_cc C_is_width (hr.mono (by decide)) (by rfl) pass0 (pa_cons (pv 1) pa_nil)))) pa_nil)))))), ?_⟩
  obtain ⟨a, ws, rfl, hs, hw, hl, q⟩ := h
  refine s_ret (v := .bl (true && (List.replicate ws.length true).all id)) ?_ (by rw [show (true && (List.replicate ws.length true).all id) = true by simp]; exact q)
  refine ev_andV ?_ fun _ => ?_
  · exact ev_cb (ea_cons (ev_var rfl) (ea_cons ev_c ea_nil)) (rc_isi_l hs (by decide +kernel))
  · refine ev_cbL (el_lcL (fun _ => true) (fun _ => .bl true) (ev_var rfl) hs (by rw [nl_len]; omega) (fun _ => rfl) (fun i x H1 e hx => et_yes) fun i x H1 e hx _ => ?_) fun p H1 hp e => ?_
    · obtain ⟨n, hn, rfl⟩ := nl_get' hx
      have hn2 := hw n (List.mem_of_getElem? hn)
      refine ev_is (v := .bl (decide ((1 : Int) ≤ (n : Int)) && decide ((n : Int) ≤ 10000))) (ev_call (ea_cons (ev_var rfl) ea_nil) (spv_retV fun H1 e Q E k => ⟨_, rfl, k⟩)) ?_
      rw [decide_eq_true (by omega), decide_eq_true (by omega)]
      rfl
    · rw [given_all, nl_len] at hp
      have e1 : (List.range ws.length).map (fun _ => V.bl true) = (List.replicate ws.length true).map V.bl := by
        rw [List.map_const']
        simp
      rw [e1] at hp
      exact rc_all (sq_of hp)
def sp_require_widths (K : PySem.W.Frag) : Sp := fun vs H Q _ => ∃ (a : Addr) (ws : List Nat), vs = [.ref a] ∧ SqL K H a (nl ws) ∧ Wd ws ∧ ws.length ≤ 1000 ∧ RetV .non H Q
theorem ok_require_widths (T : Env K mg) : Callee P w K mg base CX0 4 "require_widths" ["widths"] [] (sp_require_widths K) := by
  have C_is_widths := ok_is_widths (P := P) (w := w) (base := base) T
  refine callee_of T.g_require_widths T.d_require_widths sc_require_widths (fun _ _ _ _ _ _ us hl => match us, hl with | [_], _ => rfl) (fun vs H Q E h => by first | (obtain ⟨rfl, _⟩ := h; rfl) | (obtain ⟨_, rfl, _⟩ := h; rfl) | (obtain ⟨_, _, rfl, _⟩ := h; rfl) | (obtain ⟨_, _, _, rfl, _⟩ := h; rfl) | (obtain ⟨_, _, _, _, rfl, _⟩ := h; rfl) | (obtain ⟨_, _, _, _, _, rfl, _⟩ := h; rfl) | (obtain ⟨_, _, _, _, _, _, rfl, _⟩ := h; rfl) | (obtain ⟨_, _, _, _, _, _, _, rfl, _⟩ := h; rfl) | (obtain ⟨_, _, _, _, _, _, _, _, rfl, _⟩ := h; rfl)) ?_
  intro cdv f A outer s H vs Q E hr h
  refine ⟨_, (pss_one (ps_if (pt_not (pt_val (Hw.pe_cc C_is_widths (hr.mono (by decide)) (by rfl) pass0 (pa_cons (pv 0) pa_nil)))) (pss_one ps_never) pss_nil)), ?_⟩
  obtain ⟨a, ws, rfl, hs, hw, hl, q⟩ := h
  refine s_when (b := !true) (et_not (et_B (ev_call (ea_cons (ev_var rfl) ea_nil) (spv_retV fun H1 e Q E k => ⟨_, _, rfl, ex_l e hs, hw, hl, k⟩)))) (fun hb => absurd hb (by decide)) fun _ H1 e => q.go e
def sp_require_position (K : PySem.W.Frag) : Sp := fun vs H Q _ => ∃ n : Nat, vs = [.int n] ∧ n ≤ 10 ^ 30 ∧ RetV .non H Q
theorem ok_require_position (T : Env K mg) : Callee P w K mg base CX0 2 "require_position" ["position"] [] (sp_require_position K) := by
  have C_is_integer := ok_is_integer (P := P) (w := w) (base := base) T
  refine callee_of T.g_require_position T.d_require_position sc_require_position (fun _ _ _ _ _ _ us hl => match us, hl with | [_], _ => rfl) (fun vs H Q E h => by first | (obtain ⟨rfl, _⟩ := h; rfl) | (obtain ⟨_, rfl, _⟩ := h; rfl) | (obtain ⟨_, _, rfl, _⟩ := h; rfl) | (obtain ⟨_, _, _, rfl, _⟩ := h; rfl) | (obtain ⟨_, _, _, _, rfl, _⟩ := h; rfl) | (obtain ⟨_, _, _, _, _, rfl, _⟩ := h; rfl) | (obtain ⟨_, _, _, _, _, _, rfl, _⟩ := h; rfl) | (obtain ⟨_, _, _, _, _, _, _, rfl, _⟩ := h; rfl) | (obtain ⟨_, _, _, _, _, _, _, _, rfl, _⟩ := h; rfl)) ?_
  intro cdv f A outer s H vs Q E hr h
  refine ⟨_, (pss_one (ps_if (pt_not (pt_val (Hw.pe_cc C_is_integer (hr.mono (by decide)) (by rfl) pass0 (pa_cons (pv 0) (pa_cons pe_int (pa_cons (pe_glob (v := .int 1000000000000000000000000000000) (by rfl) T.c_MAX_LENGTH.choose_spec ⟨_, rfl⟩) pa_nil)))))) (pss_one ps_never) pss_nil)), ?_⟩
  obtain ⟨n, rfl, hn, q⟩ := h
  have hb : (decide ((0 : Int) ≤ (n : Int)) && decide ((n : Int) ≤ 1000000000000000000000000000000)) = true := by
    rw [decide_eq_true (by omega), decide_eq_true (by omega)]
    rfl
  refine s_when (b := !(decide ((0 : Int) ≤ (n : Int)) && decide ((n : Int) ≤ 1000000000000000000000000000000))) (et_not (et_B (ev_call (ea_cons (ev_var rfl) (ea_cons ev_c (ea_cons ev_c ea_nil))) (spv_retV fun H1 e Q E k => ⟨_, _, _, rfl, k⟩)))) (fun h => by rw [hb] at h; cases h) fun _ H1 e => q.go e
def sp_require_length (K : PySem.W.Frag) : Sp := fun vs H Q _ => ∃ (n lo hi : Int), vs = [.int n, .int lo, .int hi] ∧ lo ≤ n ∧ n ≤ hi ∧ RetV .non H Q
theorem ok_require_length (T : Env K mg) : Callee P w K mg base CX0 2 "require_length" ["length", "least", "greatest"] [] (sp_require_length K) := by
  have C_is_integer := ok_is_integer (P := P) (w := w) (base := base) T
  refine callee_ofDall T.g_require_length (by decide) T.d_require_length sc_require_length (fun _ _ _ _ _ _ _ us its hl hi => match us, its, hl, hi with | [_, _, _], [_, _], _, _ => ⟨_, rfl, rfl⟩) (fun vs H Q E h => by first | (obtain ⟨rfl, _⟩ := h; rfl) | (obtain ⟨_, rfl, _⟩ := h; rfl) | (obtain ⟨_, _, rfl, _⟩ := h; rfl) | (obtain ⟨_, _, _, rfl, _⟩ := h; rfl) | (obtain ⟨_, _, _, _, rfl, _⟩ := h; rfl) | (obtain ⟨_, _, _, _, _, rfl, _⟩ := h; rfl) | (obtain ⟨_, _, _, _, _, _, rfl, _⟩ := h; rfl) | (obtain ⟨_, _, _, _, _, _, _, rfl, _⟩ := h; rfl) | (obtain ⟨_, _, _, _, _, _, _, _, rfl, _⟩ := h; rfl)) ?_
  intro cdv f A outer s H vs Q E hr h
  refine ⟨_, (pss_one (ps_if (pt_not (pt_val (Hw.pe_cc C_is_integer (hr.mono (by decide)) (by rfl) pass0 (pa_cons (pv 0) (pa_cons (pv 1) (pa_cons (pv 2) pa_nil)))))) (pss_one ps_never) pss_nil)), ?_⟩
  obtain ⟨n, lo, hi, rfl, h1, h2, q⟩ := h
  have hb : (decide (lo ≤ n) && decide (n ≤ hi)) = true := by
    rw [decide_eq_true h1, decide_eq_true h2]
    rfl
  refine s_when (b := !(decide (lo ≤ n) && decide (n ≤ hi))) (et_not (et_B (ev_call (ea_cons (ev_var rfl) (ea_cons (ev_var rfl) (ea_cons (ev_var rfl) ea_nil))) (spv_retV fun H1 e Q E k => ⟨_, _, _, rfl, k⟩)))) (fun h => by rw [hb] at h; cases h) fun _ H1 e => q.go e
theorem ok_require_length_2 (T : Env K mg) : Callee P w K mg base CX0 2 "require_length" ["length", "least", "greatest"] [V.int 1000000000000000000000000000000] (sp_require_length K) := by
  have C_is_integer := ok_is_integer (P := P) (w := w) (base := base) T
  refine callee_ofD 2 1 (by decide) rfl T.g_require_length T.d_require_length sc_require_length (fun _ _ _ _ _ _ _ us its hl hi => match us, its, hl, hi with | [_, _], [_, _], _, _ => ⟨_, rfl, rfl⟩) (fun vs H Q E h => by first | (obtain ⟨rfl, _⟩ := h; rfl) | (obtain ⟨_, rfl, _⟩ := h; rfl) | (obtain ⟨_, _, rfl, _⟩ := h; rfl) | (obtain ⟨_, _, _, rfl, _⟩ := h; rfl) | (obtain ⟨_, _, _, _, rfl, _⟩ := h; rfl) | (obtain ⟨_, _, _, _, _, rfl, _⟩ := h; rfl) | (obtain ⟨_, _, _, _, _, _, rfl, _⟩ := h; rfl) | (obtain ⟨_, _, _, _, _, _, _, rfl, _⟩ := h; rfl) | (obtain ⟨_, _, _, _, _, _, _, _, rfl, _⟩ := h; rfl)) ?_
  intro cdv f A outer s H vs Q E hr h
  refine ⟨_, (pss_one (ps_if (pt_not (pt_val (Hw.pe_cc C_is_integer (hr.mono (by decide)) (by rfl) pass0 (pa_cons (pv 0) (pa_cons (pv 1) (pa_cons (pv 2) pa_nil)))))) (pss_one ps_never) pss_nil)), ?_⟩
  obtain ⟨n, lo, hi, rfl, h1, h2, q⟩ := h
  have hb : (decide (lo ≤ n) && decide (n ≤ hi)) = true := by
    rw [decide_eq_true h1, decide_eq_true h2]
    rfl
  refine s_when (b := !(decide (lo ≤ n) && decide (n ≤ hi))) (et_not (et_B (ev_call (ea_cons (ev_var rfl) (ea_cons (ev_var rfl) (ea_cons (ev_var rfl) ea_nil))) (spv_retV fun H1 e Q E k => ⟨_, _, _, rfl, k⟩)))) (fun h => by rw [hb] at h; cases h) fun _ H1 e => q.go e
theorem ok_require_length_1 (T : Env K mg) : Callee P w K mg base CX0 2 "require_length" ["length", "least", "greatest"] [V.int 0, V.int 1000000000000000000000000000000] (sp_require_length K) := by
  have C_is_integer := ok_is_integer (P := P) (w := w) (base := base) T
  refine callee_ofD 1 0 (by decide) rfl T.g_require_length T.d_require_length sc_require_length (fun _ _ _ _ _ _ _ us its hl hi => match us, its, hl, hi with | [_], [_, _], _, _ => ⟨_, rfl, rfl⟩) (fun vs H Q E h => by first | (obtain ⟨rfl, _⟩ := h; rfl) | (obtain ⟨_, rfl, _⟩ := h; rfl) | (obtain ⟨_, _, rfl, _⟩ := h; rfl) | (obtain ⟨_, _, _, rfl, _⟩ := h; rfl) | (obtain ⟨_, _, _, _, rfl, _⟩ := h; rfl) | (obtain ⟨_, _, _, _, _, rfl, _⟩ := h; rfl) | (obtain ⟨_, _, _, _, _, _, rfl, _⟩ := h; rfl) | (obtain ⟨_, _, _, _, _, _, _, rfl, _⟩ := h; rfl) | (obtain ⟨_, _, _, _, _, _, _, _, rfl, _⟩ := h; rfl)) ?_
  intro cdv f A outer s H vs Q E hr h
  refine ⟨_, (pss_one (ps_if (pt_not (pt_val (Hw.pe_cc C_is_integer (hr.mono (by decide)) (by rfl) pass0 (pa_cons (pv 0) (pa_cons (pv 1) (pa_cons (pv 2) pa_nil)))))) (pss_one ps_never) pss_nil)), ?_⟩
  obtain ⟨n, lo, hi, rfl, h1, h2, q⟩ := h
  have hb : (decide (lo ≤ n) && decide (n ≤ hi)) = true := by
    rw [decide_eq_true h1, decide_eq_true h2]
    rfl
  refine s_when (b := !(decide (lo ≤ n) && decide (n ≤ hi))) (et_not (et_B (ev_call (ea_cons (ev_var rfl) (ea_cons (ev_var rfl) (ea_cons (ev_var rfl) ea_nil))) (spv_retV fun H1 e Q E k => ⟨_, _, _, rfl, k⟩)))) (fun h => by rw [hb] at h; cases h) fun _ H1 e => q.go e
def sp_column_of (K : PySem.W.Frag) : Sp := fun vs H Q _ => ∃ (a : Addr) (ws : List Nat) (p : Nat), vs = [.ref a, .int p] ∧ SqL K H a (nl ws) ∧ Pos ws ∧ RetV (.int (col ws p : Nat)) H Q
theorem col_take {ws : List Nat} {i n : Nat} (h : ws[i]? = some n) (p : Nat) : col (ws.take (i + 1)) p = col (ws.take i) p % n := by
  rw [List.take_add_one, h]
  exact col_snoc _ _ _
theorem ok_column_of (T : Env K mg) : Callee P w K mg base CX0 1 "column_of" ["widths", "position"] [] (sp_column_of K) := by
  refine callee_of T.g_column_of T.d_column_of sc_column_of (fun _ _ _ _ _ _ us hl => match us, hl with | [_, _], _ => rfl) (fun vs H Q E h => by first | (obtain ⟨rfl, _⟩ := h; rfl) | (obtain ⟨_, rfl, _⟩ := h; rfl) | (obtain ⟨_, _, rfl, _⟩ := h; rfl) | (obtain ⟨_, _, _, rfl, _⟩ := h; rfl) | (obtain ⟨_, _, _, _, rfl, _⟩ := h; rfl) | (obtain ⟨_, _, _, _, _, rfl, _⟩ := h; rfl) | (obtain ⟨_, _, _, _, _, _, rfl, _⟩ := h; rfl) | (obtain ⟨_, _, _, _, _, _, _, rfl, _⟩ := h; rfl) | (obtain ⟨_, _, _, _, _, _, _, _, rfl, _⟩ := h; rfl)) ?_
  intro cdv f A outer s H vs Q E hr h
  refine ⟨_, (pss_cons (ps_for PassesOwn.never rfl (pi_list (pv 0)) (pg_name (i := 2) sc_column_of.nd rfl (Or.inl rfl))
      (pss_one (ps_aug (i := 1) sc_column_of.nd rfl (Or.inl rfl) (pv 2) iop_mod)))
      (pss_one (ps_ret (pv 1)))), ?_⟩
  obtain ⟨a, ws, p, rfl, hs, hw, q⟩ := h
  refine q_forLn (ev_var rfl) hs (fun i σ' H' => ∃ v, σ' = [some (.ref a), some (.int (col (ws.take i) p : Nat)), v] ∧ Ex H H') (fun H1 e => ⟨none, rfl, e⟩) (fun i σ' H' _ ⟨_, _, e⟩ => ex_l e hs) ?_ ?_
  · rintro i x σ' H' hi ⟨v, rfl, e⟩
    obtain ⟨n, hn, rfl⟩ := nl_get' hi
    have hn0 := hw n (List.mem_of_getElem? hn)
    refine ⟨_, rfl, _, rfl, _, _, rfl, rfl, by omega, ?_⟩
    refine ⟨some (.int (n : Int)), ?_, e⟩
    rw [col_take hn]
    rfl
  · rintro σ' H' ⟨v, rfl, e⟩
    rw [nl_len, List.take_length]
    exact s_ret (ev_var rfl) fun H1 e1 => q H1 (e.trans e1)
def sp_effective_of (K : PySem.W.Frag) : Sp := fun vs H Q _ => ∃ (a : Addr) (ws : List Nat), vs = [.ref a] ∧ SqL K H a (nl ws) ∧ ws.length ≤ 1000 ∧ RetL (nl (eff ws)) H Q
theorem eff_take {ws : List Nat} {i n : Nat} (h : ws[i]? = some n) : eff (ws.take (i + 1)) = effStep (eff (ws.take i)) n := by
  rw [List.take_add_one, h]
  exact eff_snoc _ _
theorem eff_take_len (ws : List Nat) (i : Nat) : (eff (ws.take i)).length ≤ i := by
  have h1 := eff_len (ws.take i)
  have h2 : (ws.take i).length ≤ i := by simp; omega
  omega
theorem ok_effective_of (T : Env K mg) : Callee P w K mg base CX0 1 "effective_of" ["widths"] [] (sp_effective_of K) := by
  refine callee_of T.g_effective_of T.d_effective_of sc_effective_of (fun _ _ _ _ _ _ us hl => match us, hl with | [_], _ => rfl) (fun vs H Q E h => by first | (obtain ⟨rfl, _⟩ := h; rfl) | (obtain ⟨_, rfl, _⟩ := h; rfl) | (obtain ⟨_, _, rfl, _⟩ := h; rfl) | (obtain ⟨_, _, _, rfl, _⟩ := h; rfl) | (obtain ⟨_, _, _, _, rfl, _⟩ := h; rfl) | (obtain ⟨_, _, _, _, _, rfl, _⟩ := h; rfl) | (obtain ⟨_, _, _, _, _, _, rfl, _⟩ := h; rfl) | (obtain ⟨_, _, _, _, _, _, _, rfl, _⟩ := h; rfl) | (obtain ⟨_, _, _, _, _, _, _, _, rfl, _⟩ := h; rfl)) ?_
  intro cdv f A outer s H vs Q E hr h
  refine ⟨_, (pss_cons (ps_set (i := 1) sc_effective_of.nd rfl (Or.inl rfl) (pe_lst pa_nil))
      (pss_cons (ps_for PassesOwn.never rfl (pi_list (pv 0)) (pg_name (i := 2) sc_effective_of.nd rfl (Or.inl rfl))
      (pss_one (ps_if (PW.pt (pw_or (pt_cmpR (op_eqD hr.units) (pv 1) (pe_lst pa_nil) (nomark _)) (pw_or1 (pt_cmpR op_lt (pv 2) (pe_ix ix_list (pv 1) (pe_un un_neg pe_int) (fun _ _ => rfl)) (nomark _))))) (pss_one (ps_expr (pe_bm PySem.F.plainAttrs_list PySem.F.slot_list_append PySem.F.type_list_append mt_append (pv 1) (pa_cons (pv 2) pa_nil)))) pss_nil)))
      (pss_one (ps_ret (pv 1))))), ?_⟩
  obtain ⟨a, ws, rfl, hs, hl, q⟩ := h
  refine q_asgL (el_lst ea_nil (by decide)) fun l H1 hl0 e1 hl1 => ?_
  refine q_forLn (ev_var rfl) (ex_l e1 hs) (fun i σ' H' => ∃ v, σ' = [some (.ref a), some (.ref l), v] ∧ Ex H H' ∧ H' l = some (.lst (nl (eff (ws.take i))))) (fun H2 e2 => ⟨none, rfl, e1.trans e2, e2 _ _ hl1⟩) (fun i σ' H' _ ⟨_, _, e, _⟩ => ex_l e hs) ?_ ?_
  · rintro i x σ' H' hi ⟨v, rfl, e, hf⟩
    obtain ⟨n, hn, rfl⟩ := nl_get' hi
    have hlen := eff_take_len ws i
    have hi2 := (List.getElem?_eq_some_iff.mp hn).1
    have step := eff_take hn
    refine s_when (b := decide (eff (ws.take i) = []) || decide ((n : Int) < (((eff (ws.take i)).getLastD 0 : Nat) : Int))) (et_or ?_ fun hne => ?_) (fun hb H2 e2 => ?_) (fun hb H2 e2 => ?_)
    · refine et_test (ev_opL (ev_var rfl) (el_lst ea_nil (by decide)) fun p H2 hp e2 => ?_)
      have := rv_eqD (K := K) (dp_nl (sq_of (e2 _ _ hf))) (dp_nl (ws := []) (sq_of hp)) (shaped_dN _) (shaped_dN _)
      rw [eqv_dN] at this
      exact this
    · have hne' : eff (ws.take i) ≠ [] := of_decide_eq_false hne
      have hlast : (eff (ws.take i)).getLast? = some ((eff (ws.take i)).getLastD 0) := by
        rw [List.getLastD_eq_getLast?, List.getLast?_eq_some_getLast hne']
        rfl
      exact et_test (ev_op (ev_var rfl) (ev_op (ev_var rfl) (ev_un ev_c ru_neg) (rv_ixL (sq_of hf) (nl_last hlast))) rv_I0)
    · refine s_app (e2 _ _ hf) (ev_var rfl) (ev_var rfl) (by rw [nl_len]; omega) fun H3 e3 => ?_
      refine ⟨_, rfl, ((e.trans e2).trans e3).mut hl0, ?_⟩
      rw [upd_same, step]
      unfold effStep
      rw [if_pos (by
        rcases (Bool.or_eq_true _ _).mp hb with z | z
        · exact .inl (of_decide_eq_true z)
        · exact .inr (by have := of_decide_eq_true z; omega)), nl_append]
      rfl
    · refine ⟨_, rfl, e.trans e2, ?_⟩
      rw [step]
      unfold effStep
      rw [if_neg (by
        intro z
        rw [Bool.or_eq_false_iff] at hb
        rcases z with z | z
        · exact of_decide_eq_false hb.1 z
        · exact of_decide_eq_false hb.2 (by omega))]
      exact e2 _ _ hf
  · rintro σ' H' ⟨v, rfl, e, hf⟩
    rw [nl_len, List.take_length] at hf
    exact s_ret (ev_var rfl) fun H2 e2 => q l H2 hl0 (e.trans e2) (e2 _ _ hf)
def sp_column (K : PySem.W.Frag) : Sp := fun vs H Q _ => ∃ (a : Addr) (ws : List Nat) (p : Nat), vs = [.ref a, .int p] ∧ SqL K H a (nl ws) ∧ Wd ws ∧ ws.length ≤ 1000 ∧ p ≤ 10 ^ 30 ∧ RetV (.int (col ws p : Nat)) H Q
theorem ok_column (T : Env K mg) : Callee P w K mg base CX0 5 "column" ["widths", "position"] [] (sp_column K) := by
  have C_column_of := ok_column_of (P := P) (w := w) (base := base) T
  have C_require_position := ok_require_position (P := P) (w := w) (base := base) T
  have C_require_widths := ok_require_widths (P := P) (w := w) (base := base) T
  refine callee_of T.g_column T.d_column sc_column (fun _ _ _ _ _ _ us hl => match us, hl with | [_, _], _ => rfl) (fun vs H Q E h => by first | (obtain ⟨rfl, _⟩ := h; rfl) | (obtain ⟨_, rfl, _⟩ := h; rfl) | (obtain ⟨_, _, rfl, _⟩ := h; rfl) | (obtain ⟨_, _, _, rfl, _⟩ := h; rfl) | (obtain ⟨_, _, _, _, rfl, _⟩ := h; rfl) | (obtain ⟨_, _, _, _, _, rfl, _⟩ := h; rfl) | (obtain ⟨_, _, _, _, _, _, rfl, _⟩ := h; rfl) | (obtain ⟨_, _, _, _, _, _, _, rfl, _⟩ := h; rfl) | (obtain ⟨_, _, _, _, _, _, _, _, rfl, _⟩ := h; rfl)) ?_
  intro cdv f A outer s H vs Q E hr h
  refine ⟨_, (pss_cons (ps_expr (Hw.pe_cc C_require_widths (hr.mono (by decide)) (by rfl) pass0 (pa_cons (pv 0) pa_nil)))
      (pss_cons (ps_expr (Hw.pe_cc C_require_position (hr.mono (by decide)) (by rfl) pass0 (pa_cons (pv 1) pa_nil)))
      (pss_one (ps_ret (Hw.pe_cc C_column_of (hr.mono (by decide)) (by rfl) pass0 (pa_cons (pv 0) (pa_cons (pv 1) pa_nil))))))), ?_⟩
  obtain ⟨a, ws, p, rfl, hs, hw, hl, hp, q⟩ := h
  refine q_drop (ev_call (ea_cons (ev_var rfl) ea_nil) (spv_retV fun H1 e Q E k => ⟨_, _, rfl, ex_l e hs, hw, hl, k⟩)) fun H1 e1 => ?_
  refine q_drop (ev_call (ea_cons (ev_var rfl) ea_nil) (spv_retV fun H1 e Q E k => ⟨_, rfl, hp, k⟩)) fun H2 e2 => ?_
  exact s_ret (ev_call (ea_cons (ev_var rfl) (ea_cons (ev_var rfl) ea_nil)) (spv_retV fun H3 e3 Q E k => ⟨_, _, _, rfl, ex_l ((e1.trans e2).trans e3) hs, hw.pos, k⟩)) fun H3 e3 => q H3 ((e1.trans e2).trans e3)
def cols (ws : List Nat) (n : Nat) : List Nat := (List.range n).map (col ws)
theorem cols_len (ws : List Nat) (n : Nat) : (cols ws n).length = n := by simp [cols]
theorem cols_get {ws : List Nat} {n i : Nat} (h : i < n) : (cols ws n)[i]? = some (col ws i) := by simp [cols, h]
theorem cols_given (ws : List Nat) (n : Nat) : given ((n : Int)).toNat (fun _ => true) (fun i => V.int (col ws i : Nat)) = nl (cols ws n) := by
  rw [given_all]
  simp [nl, cols]
def sp_columns (K : PySem.W.Frag) : Sp := fun vs H Q _ => ∃ (a : Addr) (ws : List Nat) (n : Nat), vs = [.ref a, .int n] ∧ SqL K H a (nl ws) ∧ Wd ws ∧ ws.length ≤ 1000 ∧ n ≤ 1000 ∧ RetL (nl (cols ws n)) H Q
theorem ok_columns (T : Env K mg) : Callee P w K mg base CX0 5 "columns" ["widths", "length"] [] (sp_columns K) := by
  have C_column_of := ok_column_of (P := P) (w := w) (base := base) T
  have C_require_length := ok_require_length (P := P) (w := w) (base := base) T
  have C_require_widths := ok_require_widths (P := P) (w := w) (base := base) T
  refine callee_of T.g_columns T.d_columns sc_columns (fun _ _ _ _ _ _ us hl => match us, hl with | [_, _], _ => rfl) (fun vs H Q E h => by first | (obtain ⟨rfl, _⟩ := h; rfl) | (obtain ⟨_, rfl, _⟩ := h; rfl) | (obtain ⟨_, _, rfl, _⟩ := h; rfl) | (obtain ⟨_, _, _, rfl, _⟩ := h; rfl) | (obtain ⟨_, _, _, _, rfl, _⟩ := h; rfl) | (obtain ⟨_, _, _, _, _, rfl, _⟩ := h; rfl) | (obtain ⟨_, _, _, _, _, _, rfl, _⟩ := h; rfl) | (obtain ⟨_, _, _, _, _, _, _, rfl, _⟩ := h; rfl) | (obtain ⟨_, _, _, _, _, _, _, _, rfl, _⟩ := h; rfl)) ?_
  intro cdv f A outer s H vs Q E hr h
  refine ⟨_, (pss_cons (ps_expr (Hw.pe_cc C_require_widths (hr.mono (by decide)) (by rfl) pass0 (pa_cons (pv 0) pa_nil)))
      (pss_cons (ps_expr (Hw.pe_cc C_require_length (hr.mono (by decide)) (by rfl) pass0 (pa_cons (pv 1) (pa_cons pe_int (pa_cons (pe_glob (v := .int 1000) (by rfl) T.c_MAX_COLUMNS.choose_spec ⟨_, rfl⟩) pa_nil)))))
      (pss_one (ps_ret (pe_lc (own := [("position", 2)]) (g := gName 2) rfl sc_columns.nd (pi_range1 (by rfl) T.n_range (pa_cons (pv 1) pa_nil)) (blkOk_by (own := [("position", 2)]) (N := ["widths", "length", "position"]) (sc := (defScope s_columns)) (by decide +kernel)) (fun _ _ _ _ _ => (pg_name (i := 2) sc_columns.nd rfl (Or.inl rfl))) (fun _ _ _ _ _ => pts_nil) (fun _ _ _ _ _ => (Hw.pe_cc C_column_of (hr.mono (by decide)) (by rfl) pass0 (pa_cons (pv 0) (pa_cons (pv 2) pa_nil))))))))), ?_⟩
  obtain ⟨a, ws, n, rfl, hs, hw, hl, hn, q⟩ := h
  refine q_drop (ev_call (ea_cons (ev_var rfl) ea_nil) (spv_retV fun H1 e Q E k => ⟨_, _, rfl, ex_l e hs, hw, hl, k⟩)) fun H1 e1 => ?_
  refine q_drop (ev_call (ea_cons (ev_var rfl) (ea_cons ev_c (ea_cons ev_c ea_nil))) (spv_retV fun H1 e Q E k => ⟨_, _, _, rfl, by omega, by omega, k⟩)) fun H2 e2 => ?_
  refine s_retL (xs := nl (cols ws n)) ?_ fun p H3 hp e3 h3 => q p H3 (fresh_back (e1.trans e2) hp) ((e1.trans e2).trans e3) h3
  rw [← cols_given]
  exact el_lcR1 (fun _ => true) _ (ea_cons (ev_var rfl) ea_nil) (by omega) (fun _ => rfl) (fun i H3 e3 hi => et_yes) fun i H3 e3 hi _ =>
    ev_call (ea_cons (ev_var rfl) (ea_cons (ev_var rfl) ea_nil)) (spv_retV fun H4 e4 Q E k => ⟨_, _, _, rfl, ex_l (((e1.trans e2).trans e3).trans e4) hs, hw.pos, k⟩)
end

/-! ### module periods -/
section
variable {P : Program} {w : World} {K : PySem.W.Frag} {mg : Str → Option Value} {base : Heap}
def at_ (vs : List Nat) (i : Nat) : Nat := vs.getD i 0
theorem at_lt {vs : List Nat} {i : Nat} (h : i < vs.length) : vs[i]? = some (at_ vs i) := by
  unfold at_
  simp [List.getD, h]
theorem atI_at {vs : List Nat} {i : Nat} (h : i < vs.length) : atI (nl vs) (i : Int) = some (.int (at_ vs i : Nat)) := atI_nlD h
def lbs (f : Nat → Nat) (n : Nat) : List Nat := (List.range n).map (lb f)
theorem lbs_len (f : Nat → Nat) (n : Nat) : (lbs f n).length = n := by simp [lbs]
theorem lbs_at {f : Nat → Nat} {n i : Nat} (h : i < n) : (lbs f n)[i]? = some (lb f i) := by simp [lbs, h]
theorem lbs_succ (f : Nat → Nat) (n : Nat) : lbs f (n + 1) = lbs f n ++ [lb f n] := by simp [lbs, List.range_succ]
theorem lbs_take (f : Nat → Nat) (n k : Nat) : (lbs f n).take k = lbs f (min k n) := by
  unfold lbs
  rw [← List.map_take, List.take_range]
theorem nl_at {ws : List Nat} {i n : Nat} (h : ws[i]? = some n) : atI (nl ws) (i : Int) = some (.int (n : Int)) := by
  refine atI_nat ?_
  unfold nl
  rw [List.getElem?_map, h]
  rfl
theorem rc_lenN {K : PySem.W.Frag} {H : Hp} {a : Addr} {ws : List Nat} (hs : SqL K H a (nl ws)) : RC (fun xs H Q => ∃ p ys, xs = [.ref p] ∧ (SqL K H p ys ∨ SqT K H p ys) ∧ Q (.int ys.length) H) [.ref a] H (.int (ws.length : Int)) := by
  have := rc_len hs
  rw [nl_len] at this
  exact this
theorem dec_vint (x y : Nat) : decide (V.int (x : Int) = V.int (y : Int)) = decide (x = y) := by
  by_cases h : x = y
  · subst h; simp
  · rw [decide_eq_false h, decide_eq_false]
    intro e
    injection e with e
    omega
def sp_border_lengths (K : PySem.W.Frag) : Sp := fun vs H Q _ => ∃ (a : Addr) (xs : List Nat), vs = [.ref a] ∧ SqL K H a (nl xs) ∧ xs.length ≤ 40000 ∧ RetL (nl (lbs (at_ xs) (xs.length + 1))) H Q
theorem ok_border_lengths (T : Env K mg) : Callee P w K mg base CX0 1 "border_lengths" ["values"] [] (sp_border_lengths K) := by
  refine callee_of T.g_border_lengths T.d_border_lengths sc_border_lengths (fun _ _ _ _ _ _ us hl => match us, hl with | [_], _ => rfl) (fun vs H Q E h => by first | (obtain ⟨rfl, _⟩ := h; rfl) | (obtain ⟨_, rfl, _⟩ := h; rfl) | (obtain ⟨_, _, rfl, _⟩ := h; rfl) | (obtain ⟨_, _, _, rfl, _⟩ := h; rfl) | (obtain ⟨_, _, _, _, rfl, _⟩ := h; rfl) | (obtain ⟨_, _, _, _, _, rfl, _⟩ := h; rfl) | (obtain ⟨_, _, _, _, _, _, rfl, _⟩ := h; rfl) | (obtain ⟨_, _, _, _, _, _, _, rfl, _⟩ := h; rfl) | (obtain ⟨_, _, _, _, _, _, _, _, rfl, _⟩ := h; rfl)) ?_
  intro cdv f A outer s H vs Q E hr h
  refine ⟨_, (pss_cons (ps_set (i := 1) sc_border_lengths.nd rfl (Or.inl rfl) (pe_lst (pa_cons pe_int (pa_cons pe_int pa_nil))))
      (pss_cons (ps_for PassesOwn.never rfl (pi_range2 (by rfl) T.n_range (pa_cons pe_int (pa_cons (pe_callB call_len_seq (by rfl) T.n_len PySem.boot_len (pa_cons (pv 0) pa_nil)) pa_nil))) (pg_name (i := 2) sc_border_lengths.nd rfl (Or.inl rfl))
      (pss_cons (ps_set (i := 3) sc_border_lengths.nd rfl (Or.inl rfl) (pe_ix ix_list (pv 1) (pv 2) (fun _ _ => rfl)))
      (pss_cons (ps_while PassesOwn.never (PW.pt (pw_and (pt_cmpR op_gt (pv 3) pe_int (nomark _)) (pw_and1 (pt_cmpR op_ne (pe_ix ix_list (pv 0) (pv 3) (fun _ _ => rfl)) (pe_ix ix_list (pv 0) (pv 2) (fun _ _ => rfl)) (nomark _)))))
      (pss_one (ps_set (i := 3) sc_border_lengths.nd rfl (Or.inl rfl) (pe_ix ix_list (pv 1) (pv 3) (fun _ _ => rfl)))))
      (pss_one (ps_expr (pe_bm PySem.F.plainAttrs_list PySem.F.slot_list_append PySem.F.type_list_append mt_append (pv 1) (pa_cons (pe_op op_add (pv 3) (pe_callTy call_int1 (by rfl) T.n_int (by decide +kernel) (pa_cons (pe_cmpR op_eq (pe_ix ix_list (pv 0) (pv 3) (fun _ _ => rfl)) (pe_ix ix_list (pv 0) (pv 2) (fun _ _ => rfl)) (nomark _)) pa_nil))) pa_nil)))))))
      (pss_one (ps_ret (pe_slice sl_list (pv 1) po_none (po_some (pe_op op_add (pe_callB call_len_seq (by rfl) T.n_len PySem.boot_len (pa_cons (pv 0) pa_nil)) pe_int))))))), ?_⟩
  obtain ⟨a, xs, rfl, hs, hl, q⟩ := h
  refine q_asgL (el_lst (ea_cons ev_c (ea_cons ev_c ea_nil)) (show 2 ≤ 100000 by decide)) fun l H1 hl0 e1 hl1 => ?_
  refine q_forR2 (lo := 1) (n := (xs.length : Int)) (ea_cons ev_c (ea_cons (ev_cb (ea_cons (ev_var rfl) ea_nil) (rc_lenN (ex_l e1 hs))) ea_nil)) (by omega)
    (fun i σ' H' => ∃ v2 v3, σ' = [some (.ref a), some (.ref l), v2, v3] ∧ Ex H H' ∧ H' l = some (.lst (nl (lbs (at_ xs) (i + 2)))))
    (fun H2 e2 => ⟨none, none, rfl, e1.trans e2, e2 _ _ hl1⟩) ?_ ?_
  · intro i σ' H' hi ⟨v2, v3, hσ, e, hf⟩
    subst hσ
    have ee : (1 : Int) + (i : Int) = ((i + 1 : Nat) : Int) := by omega
    rw [ee]
    refine q_asg (v := .int (lb (at_ xs) (i + 1) : Nat)) (ev_op (ev_var rfl) (ev_var rfl) (rv_ixL (sq_of hf) (nl_at (lbs_at (by omega))))) fun H2 e2 => ?_
    refine q_while (fun m σ2 H3 => ∃ b : Nat, m = b ∧ σ2 = [some (.ref a), some (.ref l), some (.int ((i + 1 : Nat) : Int)), some (.int (b : Int))] ∧ KmpIn (at_ xs) (i + 1) b ∧ Ex H H3 ∧ H3 l = some (.lst (nl (lbs (at_ xs) (i + 2)))))
      (lb (at_ xs) (i + 1)) ⟨_, rfl, rfl, kmp_start (by omega), e.trans e2, e2 _ _ hf⟩ ?_
    rintro m σ2 H3 ⟨b, rfl, rfl, kb, e3, hf3⟩
    have hb1 := kb.bd.1
    have hv : ∀ H4, Ex H H4 → ∀ j : Nat, j < xs.length → RV (rIxL K) (.ref a) (.int (j : Int)) H4 (.int (at_ xs j : Nat)) := fun H4 e4 j hj => rv_ixL (ex_l e4 hs) (atI_at hj)
    refine ⟨decide ((0 : Int) < (m : Int)) && !decide (V.int (at_ xs m : Nat) = V.int (at_ xs (i + 1) : Nat)), et_and (et_test (ev_op (ev_var rfl) ev_c rv_I0)) (fun _ => et_test (ev_op (ev_op (ev_var rfl) (ev_var rfl) (hv _ e3 m (by omega))) (ev_op (ev_var rfl) (ev_var rfl) (hv _ e3 (i + 1) (by omega))) (rv_ne rfl))), fun hb H4 e4 => ?_, fun hb H4 e4 => ?_⟩
    · rw [Bool.and_eq_true] at hb
      have b0 : 0 < m := by have := of_decide_eq_true hb.1; omega
      have bne : at_ xs m ≠ at_ xs (i + 1) := by
        have h2 := hb.2
        rw [dec_vint] at h2
        simpa using h2
      obtain ⟨k2, lt2⟩ := kmp_turn kb b0 bne
      refine ⟨fun σ3 H5 => σ3 = [some (.ref a), some (.ref l), some (.int ((i + 1 : Nat) : Int)), some (.int (lb (at_ xs) m : Nat))] ∧ Ex H H5 ∧ H5 l = some (.lst (nl (lbs (at_ xs) (i + 2)))), fun σ3 H5 ⟨h1, h2, h3⟩ => ⟨_, lt2, _, rfl, h1, k2, h2, h3⟩, ?_⟩
      exact s_asg (v := .int (lb (at_ xs) m : Nat)) (ev_op (ev_var rfl) (ev_var rfl) (rv_ixL (sq_of (e4 _ _ hf3)) (nl_at (lbs_at (by omega))))) fun H5 e5 => ⟨rfl, (e3.trans e4).trans e5, e5 _ _ (e4 _ _ hf3)⟩
    · have done : ¬ (0 < m ∧ at_ xs m ≠ at_ xs (i + 1)) := by
        intro z
        rw [dec_vint] at hb
        have h1 : decide ((0 : Int) < (m : Int)) = true := decide_eq_true (by omega)
        rw [h1, decide_eq_false z.2] at hb
        cases hb
      have fin := kmp_end kb done
      refine s_app (v := .int (lb (at_ xs) (i + 2) : Nat)) (e4 _ _ hf3) (ev_var rfl) ?_ (by rw [nl_len, lbs_len]; omega) fun H5 e5 => ?_
      · refine ev_is (ev_op (ev_var rfl) (ev_cb (ea_cons (ev_op (ev_op (ev_var rfl) (ev_var rfl) (hv _ (e3.trans e4) m (by omega))) (ev_op (ev_var rfl) (ev_var rfl) (hv _ (e3.trans e4) (i + 1) (by omega))) (rv_eq rfl)) ea_nil) rc_intb) rv_I0) ?_
        rw [dec_vint, fin]
        by_cases z : at_ xs m = at_ xs (i + 1)
        · simp [z]
        · simp [z]
      · refine ⟨some (.int ((i + 1 : Nat) : Int)), some (.int (m : Int)), rfl, ((e3.trans e4).trans e5).mut hl0, ?_⟩
        rw [upd_same, show i + 1 + 2 = (i + 2) + 1 from rfl, lbs_succ _ (i + 2), nl_append]
        rfl
  · rintro σ' H' ⟨v2, v3, rfl, e, hf⟩
    refine s_retL (xs := nl (lbs (at_ xs) (xs.length + 1))) ?_ fun p H2 hp e2 h2 => q p H2 (fresh_back e hp) (e.trans e2) h2
    have := el_sl (K := K) (te := tVar 1) (tl := tNoPart) (σ := [some (V.ref a), some (V.ref l), v2, v3]) (ev_var rfl) eo_none (eo_some (ev_op (ev_cb (ea_cons (ev_var (i := 0) rfl) ea_nil) (rc_lenN (ex_l e hs))) (ev_c (v := .int 1)) (rv_I0 (g := fun i j => .int (i + j))))) (sq_of hf)
    have c : cutV (nl (lbs (at_ xs) (((xs.length : Int) - 1).toNat + 2))) none (some ((xs.length : Int) + 1)) = nl (lbs (at_ xs) (xs.length + 1)) := by
      rw [show (xs.length : Int) + 1 = ((xs.length + 1 : Nat) : Int) by omega, cutV_0n, nl_take, lbs_take]
      congr 2
      omega
    rw [c] at this
    exact this
def sp_least_period_of (K : PySem.W.Frag) : Sp := fun vs H Q _ => ∃ (a : Addr) (xs : List Nat), vs = [.ref a] ∧ SqL K H a (nl xs) ∧ xs.length ≤ 40000 ∧ RetV (.int (lp (at_ xs) xs.length : Nat)) H Q
theorem ok_least_period_of (T : Env K mg) : Callee P w K mg base CX0 2 "least_period_of" ["values"] [] (sp_least_period_of K) := by
  have C_border_lengths := ok_border_lengths (P := P) (w := w) (base := base) T
  refine callee_of T.g_least_period_of T.d_least_period_of sc_least_period_of (fun _ _ _ _ _ _ us hl => match us, hl with | [_], _ => rfl) (fun vs H Q E h => by first | (obtain ⟨rfl, _⟩ := h; rfl) | (obtain ⟨_, rfl, _⟩ := h; rfl) | (obtain ⟨_, _, rfl, _⟩ := h; rfl) | (obtain ⟨_, _, _, rfl, _⟩ := h; rfl) | (obtain ⟨_, _, _, _, rfl, _⟩ := h; rfl) | (obtain ⟨_, _, _, _, _, rfl, _⟩ := h; rfl) | (obtain ⟨_, _, _, _, _, _, rfl, _⟩ := h; rfl) | (obtain ⟨_, _, _, _, _, _, _, rfl, _⟩ := h; rfl) | (obtain ⟨_, _, _, _, _, _, _, _, rfl, _⟩ := h; rfl)) ?_
  intro cdv f A outer s H vs Q E hr h
  refine ⟨_, (pss_one (ps_ret (pe_op op_sub (pe_callB call_len_seq (by rfl) T.n_len PySem.boot_len (pa_cons (pv 0) pa_nil)) (pe_ix ix_list (Hw.pe_cc C_border_lengths (hr.mono (by decide)) (by rfl) pass0 (pa_cons (pv 0) pa_nil)) (pe_un un_neg pe_int) (fun _ _ => rfl))))), ?_⟩
  obtain ⟨a, xs, rfl, hs, hl, q⟩ := h
  refine s_ret (v := .int (lp (at_ xs) xs.length : Nat)) ?_ q
  refine ev_is (ev_op (ev_cb (ea_cons (ev_var rfl) ea_nil) (rc_lenN hs)) (ev_ixNL (z := .int (lb (at_ xs) xs.length : Nat)) (el_call (ea_cons (ev_var rfl) ea_nil) (spl_retL fun H1 e1 Q E k => ⟨_, _, rfl, ex_l e1 hs, hl, k⟩)) (fun H1 e1 => ev_un ev_c ru_neg) ?_) rv_I0) ?_
  · refine nl_last ?_
    rw [lbs_succ]
    simp
  · have := lb_le (at_ xs) xs.length
    unfold lp
    congr 1
    omega
def sp_first_columns (K : PySem.W.Frag) : Sp := fun vs H Q _ => ∃ (a : Addr) (ws : List Nat) (n : Nat), vs = [.ref a, .int n] ∧ SqL K H a (nl ws) ∧ Pos ws ∧ n ≤ 40000 ∧ RetL (nl (cols ws n)) H Q
theorem ok_first_columns (T : Env K mg) : Callee P w K mg base CX0 2 "first_columns" ["widths", "length"] [] (sp_first_columns K) := by
  have C_column_of := ok_column_of (P := P) (w := w) (base := base) T
  refine callee_of T.g_first_columns T.d_first_columns sc_first_columns (fun _ _ _ _ _ _ us hl => match us, hl with | [_, _], _ => rfl) (fun vs H Q E h => by first | (obtain ⟨rfl, _⟩ := h; rfl) | (obtain ⟨_, rfl, _⟩ := h; rfl) | (obtain ⟨_, _, rfl, _⟩ := h; rfl) | (obtain ⟨_, _, _, rfl, _⟩ := h; rfl) | (obtain ⟨_, _, _, _, rfl, _⟩ := h; rfl) | (obtain ⟨_, _, _, _, _, rfl, _⟩ := h; rfl) | (obtain ⟨_, _, _, _, _, _, rfl, _⟩ := h; rfl) | (obtain ⟨_, _, _, _, _, _, _, rfl, _⟩ := h; rfl) | (obtain ⟨_, _, _, _, _, _, _, _, rfl, _⟩ := h; rfl)) ?_
  intro cdv f A outer s H vs Q E hr h
  refine ⟨_, (pss_one (ps_ret (pe_lc (own := [("position", 2)]) (g := gName 2) rfl sc_first_columns.nd (pi_range1 (by rfl) T.n_range (pa_cons (pv 1) pa_nil)) (blkOk_by (own := [("position", 2)]) (N := ["widths", "length", "position"]) (sc := (defScope s_first_columns)) (by decide +kernel)) (fun _ _ _ _ _ => (pg_name (i := 2) sc_first_columns.nd rfl (Or.inl rfl))) (fun _ _ _ _ _ => pts_nil) (fun _ _ _ _ _ => (Hw.pe_cc C_column_of (hr.mono (by decide)) (by rfl) pass0 (pa_cons (pv 0) (pa_cons (pv 2) pa_nil))))))), ?_⟩
  obtain ⟨a, ws, n, rfl, hs, hw, hn, q⟩ := h
  refine s_retL (xs := nl (cols ws n)) ?_ q
  rw [← cols_given]
  exact el_lcR1 (fun _ => true) _ (ea_cons (ev_var rfl) ea_nil) (by omega) (fun _ => rfl) (fun i H3 e3 hi => et_yes) fun i H3 e3 hi _ =>
    ev_call (ea_cons (ev_var rfl) (ea_cons (ev_var rfl) ea_nil)) (spv_retV fun H4 e4 Q E k => ⟨_, _, _, rfl, ex_l (e3.trans e4) hs, hw, k⟩)
def vO : Option Nat → V
  | none => .non
  | some n => .int (n : Int)
theorem cols_at {ws : List Nat} {n i : Nat} (h : i < n) : at_ (cols ws n) i = col ws i := by
  unfold at_ cols
  simp [List.getD, h]
theorem lp_cols (ws : List Nat) (n : Nat) : lp (at_ (cols ws n)) (cols ws n).length = lp (col ws) n := by
  rw [cols_len]
  exact lp_congr fun i hi => cols_at hi
theorem ev_nilEq {K : PySem.W.Frag} {σ : L2.St} {H : Hp} {ta : TE} {a : Addr} {ws : List Nat} (ha : Ev ta σ H (.ref a)) (hs : SqL K H a (nl ws)) : Ev (tOp (rEqD K) ta (tLst tNil)) σ H (.bl (decide (ws = []))) := by
  refine ev_opL ha (el_lst ea_nil (by decide)) fun p H1 hp e1 => ?_
  have := rv_eqD (K := K) (dp_nl (ex_l e1 hs)) (dp_nl (ws := []) (sq_of hp)) (shaped_dN _) (shaped_dN _)
  rw [eqv_dN] at this
  exact this
theorem ev_nilNe {K : PySem.W.Frag} {σ : L2.St} {H : Hp} {ta : TE} {a : Addr} {ws : List Nat} (ha : Ev ta σ H (.ref a)) (hs : SqL K H a (nl ws)) : Ev (tOp (rNeD K) ta (tLst tNil)) σ H (.bl (!decide (ws = []))) := by
  refine ev_opL ha (el_lst ea_nil (by decide)) fun p H1 hp e1 => ?_
  have := rv_neD (K := K) (dp_nl (ex_l e1 hs)) (dp_nl (ws := []) (sq_of hp)) (shaped_dN _) (shaped_dN _)
  rw [eqv_dN] at this
  exact this
def sp_whole_period (K : PySem.W.Frag) : Sp := fun vs H Q _ => ∃ (a : Addr) (ws : List Nat), vs = [.ref a] ∧ SqL K H a (nl ws) ∧ Wd ws ∧ RetV (vO (wholeO ws)) H Q
theorem ok_whole_period (T : Env K mg) : Callee P w K mg base CX0 3 "whole_period" ["widths"] [] (sp_whole_period K) := by
  have C_first_columns := ok_first_columns (P := P) (w := w) (base := base) T
  have C_least_period_of := ok_least_period_of (P := P) (w := w) (base := base) T
  refine callee_of T.g_whole_period T.d_whole_period sc_whole_period (fun _ _ _ _ _ _ us hl => match us, hl with | [_], _ => rfl) (fun vs H Q E h => by first | (obtain ⟨rfl, _⟩ := h; rfl) | (obtain ⟨_, rfl, _⟩ := h; rfl) | (obtain ⟨_, _, rfl, _⟩ := h; rfl) | (obtain ⟨_, _, _, rfl, _⟩ := h; rfl) | (obtain ⟨_, _, _, _, rfl, _⟩ := h; rfl) | (obtain ⟨_, _, _, _, _, rfl, _⟩ := h; rfl) | (obtain ⟨_, _, _, _, _, _, rfl, _⟩ := h; rfl) | (obtain ⟨_, _, _, _, _, _, _, rfl, _⟩ := h; rfl) | (obtain ⟨_, _, _, _, _, _, _, _, rfl, _⟩ := h; rfl)) ?_
  intro cdv f A outer s H vs Q E hr h
  refine ⟨_, (pss_cons (ps_if (pt_cmpR (op_eqD hr.units) (pv 0) (pe_lst pa_nil) (nomark _)) (pss_one (ps_ret pe_non)) pss_nil)
      (pss_cons (ps_set (i := 1) sc_whole_period.nd rfl (Or.inl rfl) (Hw.pe_cc C_least_period_of (hr.mono (by decide)) (by rfl) pass0 (pa_cons (Hw.pe_cc C_first_columns (hr.mono (by decide)) (by rfl) pass0 (pa_cons (pv 0) (pa_cons (pe_ix ix_list (pv 0) pe_int (fun _ _ => rfl)) pa_nil))) pa_nil)))
      (pss_one (ps_ret (pe_ifExp (pt_cmpR op_eq (pe_op op_mod (pe_ix ix_list (pv 0) pe_int (fun _ _ => rfl)) (pv 1)) pe_int (nomark _)) (pv 1) (pe_ix ix_list (pv 0) pe_int (fun _ _ => rfl))))))), ?_⟩
  obtain ⟨a, ws, rfl, hs, hw, q⟩ := h
  refine q_when (b := decide (ws = [])) (et_test (ev_nilEq (ev_var rfl) hs)) (fun hb H1 e1 => ?_) (fun hb H1 e1 => ?_)
  · have hn : ws = [] := of_decide_eq_true hb
    subst hn
    exact s_ret ev_c fun H2 e2 => q H2 (e1.trans e2)
  · cases ws with
    | nil => simp at hb
    | cons W t =>
      have hW := hw W List.mem_cons_self
      have h0 : ∀ H2, Ex H H2 → RV (rIxL K) (.ref a) (.int 0) H2 (.int (W : Int)) := fun H2 e2 => rv_ixL (ex_l e2 hs) (nl_at (i := 0) rfl)
      refine q_asg (v := .int (lp (col (W :: t)) W : Nat)) ?_ fun H2 e2 => ?_
      · refine ev_callL (xs := nl (cols (W :: t) W)) (vs := []) (el_call (ea_cons (ev_var rfl) (ea_cons (ev_op (ev_var rfl) ev_c (h0 _ e1)) ea_nil)) (spl_retL fun H2 e2 Q E k => ⟨_, _, _, rfl, ex_l (e1.trans e2) hs, hw.pos, by omega, k⟩)) (fun _ _ => ea_nil) fun p H2 hp e2 => spv_retV fun H3 e3 Q E k => ⟨_, _, rfl, ex_l e3 (sq_of hp), by rw [cols_len]; omega, ?_⟩
        rw [lp_cols]
        exact k
      · have lp0 : 0 < lp (col (W :: t)) W := lp_pos hW.1
        refine s_ret (v := vO (wholeO (W :: t))) (ev_if (b := decide (V.int ((W : Int) % (lp (col (W :: t)) W : Nat)) = V.int 0)) (et_test (ev_op (ev_op (ev_op (ev_var rfl) ev_c (h0 _ (e1.trans e2))) (ev_var rfl) (rv_I (by omega))) ev_c (rv_eq rfl))) (fun hb => ?_) fun hb => ?_) fun H3 e3 => q H3 ((e1.trans e2).trans e3)
        · have h1 : W % lp (col (W :: t)) W = 0 := by
            have := of_decide_eq_true hb
            injection this with this
            omega
          rw [wholeO_cons]
          unfold wp
          rw [if_pos h1]
          exact ev_var rfl
        · have h1 : ¬ W % lp (col (W :: t)) W = 0 := by
            have := of_decide_eq_false hb
            intro z
            apply this
            congr 1
            omega
          rw [wholeO_cons]
          unfold wp
          rw [if_neg h1]
          exact ev_op (ev_var rfl) ev_c (h0 _ (e1.trans e2))
theorem vO_non {o : Option Nat} : decide (vO o = .non) = o.isNone := by cases o <;> simp [vO]
theorem wholeO_le {ws : List Nat} {p : Nat} (hw : Wd ws) (h : wholeO ws = some p) : p ≤ 10000 := by
  cases ws with
  | nil => cases h
  | cons W t =>
    have := hw W List.mem_cons_self
    have e : wp (col (W :: t)) W = p := Option.some.inj h
    have := wp_le (f := col (W :: t)) (W := W)
    omega
/-- ws's columns from s on, against the first ones: the loop that searches -/
theorem dec_ne (x y : Nat) : (!decide (V.int (x : Int) = V.int (y : Int))) = decide (x ≠ y) := by
  rw [dec_vint]
  by_cases h : x = y <;> simp [h]
def sp_overlap_of (K : PySem.W.Frag) : Sp := fun vs H Q _ => ∃ (a : Addr) (ws : List Nat) (s : Nat), vs = [.ref a, .int s] ∧ SqL K H a (nl ws) ∧ Wd ws ∧ RetV (vO (overlapO ws s)) H Q
theorem ok_overlap_of (T : Env K mg) : Callee P w K mg base CX0 4 "overlap_of" ["widths", "shift"] [] (sp_overlap_of K) := by
  have C_column_of := ok_column_of (P := P) (w := w) (base := base) T
  have C_whole_period := ok_whole_period (P := P) (w := w) (base := base) T
  refine callee_of T.g_overlap_of T.d_overlap_of sc_overlap_of (fun _ _ _ _ _ _ us hl => match us, hl with | [_, _], _ => rfl) (fun vs H Q E h => by first | (obtain ⟨rfl, _⟩ := h; rfl) | (obtain ⟨_, rfl, _⟩ := h; rfl) | (obtain ⟨_, _, rfl, _⟩ := h; rfl) | (obtain ⟨_, _, _, rfl, _⟩ := h; rfl) | (obtain ⟨_, _, _, _, rfl, _⟩ := h; rfl) | (obtain ⟨_, _, _, _, _, rfl, _⟩ := h; rfl) | (obtain ⟨_, _, _, _, _, _, rfl, _⟩ := h; rfl) | (obtain ⟨_, _, _, _, _, _, _, rfl, _⟩ := h; rfl) | (obtain ⟨_, _, _, _, _, _, _, _, rfl, _⟩ := h; rfl)) ?_
  intro cdv f A outer s H vs Q E hr h
  refine ⟨_, (pss_cons (ps_set (i := 2) sc_overlap_of.nd rfl (Or.inl rfl) (Hw.pe_cc C_whole_period (hr.mono (by decide)) (by rfl) pass0 (pa_cons (pv 0) pa_nil)))
      (pss_cons (ps_if (pt_cmpR op_isN (pv 2) pe_non (nomark _)) (pss_one (ps_ret (pe_ifExp (pt_cmpR op_eq (pv 1) pe_int (nomark _)) pe_non pe_int))) pss_nil)
      (pss_cons (ps_for PassesOwn.never rfl (pi_range1 (by rfl) T.n_range (pa_cons (pv 2) pa_nil)) (pg_name (i := 3) sc_overlap_of.nd rfl (Or.inl rfl))
      (pss_one (ps_if (pt_cmpR op_ne (Hw.pe_cc C_column_of (hr.mono (by decide)) (by rfl) pass0 (pa_cons (pv 0) (pa_cons (pe_op op_add (pv 1) (pv 3)) pa_nil))) (Hw.pe_cc C_column_of (hr.mono (by decide)) (by rfl) pass0 (pa_cons (pv 0) (pa_cons (pv 3) pa_nil))) (nomark _)) (pss_one (ps_ret (pv 3))) pss_nil)))
      (pss_one (ps_ret pe_non))))), ?_⟩
  obtain ⟨a, ws, s, rfl, hs, hw, q⟩ := h
  refine q_asg (ev_call (ea_cons (ev_var rfl) ea_nil) (spv_retV fun H2 e2 Q E k => ⟨_, _, rfl, ex_l e2 hs, hw, k⟩)) fun H1 e1 => ?_
  refine q_when (b := decide (vO (wholeO ws) = .non)) (et_test (ev_op (ev_var rfl) ev_c rv_isN)) (fun hb H2 e2 => ?_) (fun hb H2 e2 => ?_)
  · rw [vO_non, Option.isNone_iff_eq_none] at hb
    refine s_ret (v := vO (overlapO ws s)) (ev_if (b := decide (V.int (s : Int) = V.int 0)) (et_test (ev_op (ev_var rfl) ev_c (rv_eq rfl))) (fun h0 => ?_) fun h0 => ?_) fun H3 e3 => q H3 ((e1.trans e2).trans e3)
    · have : s = 0 := by
        have := of_decide_eq_true h0
        injection this with this
        omega
      unfold overlapO
      rw [hb, this]
      exact ev_c
    · have : ¬ s = 0 := by
        have := of_decide_eq_false h0
        intro z
        apply this
        rw [z]
        rfl
      unfold overlapO
      rw [hb]
      simp only [this, if_false]
      exact ev_c
  · rw [vO_non] at hb
    cases hp : wholeO ws with
    | none => rw [hp] at hb; cases hb
    | some p =>
      have hpl := wholeO_le hw hp
      have ho : overlapO ws s = firstN (differs ws s) p := by unfold overlapO; rw [hp]
      refine q_forR1 (n := (p : Int)) (ea_cons (ev_var rfl) ea_nil) (by omega) (fun i σ' H' => ∃ v, σ' = [some (.ref a), some (.int (s : Int)), some (.int (p : Int)), v] ∧ Ex H H' ∧ ∀ j, j < i → differs ws s j = false)
        (fun H3 e3 => ⟨none, rfl, (e1.trans e2).trans e3, fun j hj => by omega⟩) ?_ ?_
      · rintro i σ' H' hi ⟨v, rfl, e, hj⟩
        have c1 : ∀ H4, Ex H' H4 → ∀ n : Nat, SpV (sp_column_of K) [.ref a, .int (n : Int)] H4 (.int (col ws n : Nat)) := fun H4 e4 n => spv_retV fun H5 e5 Q E k => ⟨_, _, _, rfl, ex_l ((e.trans e4).trans e5) hs, hw.pos, k⟩
        refine s_when (b := !decide (V.int (col ws (s + i) : Nat) = V.int (col ws i : Nat))) (et_test (ev_op (ev_call (ea_cons (ev_var rfl) (ea_cons (ev_is (ev_op (ev_var rfl) (ev_var rfl) rv_I0) (w := .int ((s + i : Nat) : Int)) (by congr 1)) ea_nil)) (c1 _ (Ex.refl _) (s + i))) (ev_call (ea_cons (ev_var rfl) (ea_cons (ev_var rfl) ea_nil)) (c1 _ (Ex.refl _) i)) (rv_ne rfl))) (fun hb H4 e4 => ?_) (fun hb H4 e4 => ?_)
        · rw [dec_ne] at hb
          have hf : overlapO ws s = some i := by rw [ho]; exact firstN_some (by omega) hb hj
          rw [hf] at q
          exact s_ret (ev_var rfl) fun H5 e5 => q H5 ((e.trans e4).trans e5)
        · rw [dec_ne] at hb
          refine ⟨some (.int (i : Int)), rfl, e.trans e4, fun j hj2 => ?_⟩
          by_cases z : j = i
          · subst z
            exact hb
          · exact hj j (by omega)
      · rintro σ' H' ⟨v, rfl, e, hj⟩
        have hf : overlapO ws s = none := by rw [ho]; exact firstN_none.mpr fun i hi => hj i (by omega)
        rw [hf] at q
        exact s_ret ev_c fun H5 e5 => q H5 (e.trans e5)
theorem Wd.eff {ws : List Nat} (h : Wd ws) : Wd (eff ws) := fun x hx => h x (eff_mem hx)
def sp_overlap (K : PySem.W.Frag) : Sp := fun vs H Q _ => ∃ (a : Addr) (ws : List Nat) (s : Nat), vs = [.ref a, .int s] ∧ SqL K H a (nl ws) ∧ Wd ws ∧ ws.length ≤ 1000 ∧ s ≤ 10 ^ 30 ∧ RetV (vO (overlapO (eff ws) s)) H Q
theorem ok_overlap (T : Env K mg) : Callee P w K mg base CX0 5 "overlap" ["widths", "shift"] [] (sp_overlap K) := by
  have C_effective_of := ok_effective_of (P := P) (w := w) (base := base) T
  have C_overlap_of := ok_overlap_of (P := P) (w := w) (base := base) T
  have C_require_position := ok_require_position (P := P) (w := w) (base := base) T
  have C_require_widths := ok_require_widths (P := P) (w := w) (base := base) T
  refine callee_of T.g_overlap T.d_overlap sc_overlap (fun _ _ _ _ _ _ us hl => match us, hl with | [_, _], _ => rfl) (fun vs H Q E h => by first | (obtain ⟨rfl, _⟩ := h; rfl) | (obtain ⟨_, rfl, _⟩ := h; rfl) | (obtain ⟨_, _, rfl, _⟩ := h; rfl) | (obtain ⟨_, _, _, rfl, _⟩ := h; rfl) | (obtain ⟨_, _, _, _, rfl, _⟩ := h; rfl) | (obtain ⟨_, _, _, _, _, rfl, _⟩ := h; rfl) | (obtain ⟨_, _, _, _, _, _, rfl, _⟩ := h; rfl) | (obtain ⟨_, _, _, _, _, _, _, rfl, _⟩ := h; rfl) | (obtain ⟨_, _, _, _, _, _, _, _, rfl, _⟩ := h; rfl)) ?_
  intro cdv f A outer s H vs Q E hr h
  refine ⟨_, (pss_cons (ps_expr (Hw.pe_cc C_require_widths (hr.mono (by decide)) (by rfl) pass0 (pa_cons (pv 0) pa_nil)))
      (pss_cons (ps_expr (Hw.pe_cc C_require_position (hr.mono (by decide)) (by rfl) pass0 (pa_cons (pv 1) pa_nil)))
      (pss_one (ps_ret (Hw.pe_cc C_overlap_of (hr.mono (by decide)) (by rfl) pass0 (pa_cons (Hw.pe_cc C_effective_of (hr.mono (by decide)) (by rfl) pass0 (pa_cons (pv 0) pa_nil)) (pa_cons (pv 1) pa_nil))))))), ?_⟩
  obtain ⟨a, ws, s, rfl, hs, hw, hl, hp, q⟩ := h
  refine q_drop (ev_call (ea_cons (ev_var rfl) ea_nil) (spv_retV fun H1 e Q E k => ⟨_, _, rfl, ex_l e hs, hw, hl, k⟩)) fun H1 e1 => ?_
  refine q_drop (ev_call (ea_cons (ev_var rfl) ea_nil) (spv_retV fun H1 e Q E k => ⟨_, rfl, hp, k⟩)) fun H2 e2 => ?_
  exact s_ret (ev_callL (vs := [.int (s : Int)]) (el_call (ea_cons (ev_var rfl) ea_nil) (spl_retL fun H3 e3 Q E k => ⟨_, _, rfl, ex_l ((e1.trans e2).trans e3) hs, hl, k⟩)) (fun H3 e3 => ea_cons (ev_var rfl) ea_nil) fun p H3 hp e3 => spv_retV fun H4 e4 Q E k => ⟨_, _, _, rfl, ex_l e4 (sq_of hp), hw.eff, k⟩) fun H3 e3 => q H3 ((e1.trans e2).trans e3)
theorem ok_overlap_kw (T : Env K mg) : KCallee P w K mg base CX0 5 "overlap" ["widths", "shift"] ["shift", "widths"] (fun vs zs => [zs.getD 1 .non, zs.getD 0 .non]) (sp_overlap K) := by
  have C_effective_of := ok_effective_of (P := P) (w := w) (base := base) T
  have C_overlap_of := ok_overlap_of (P := P) (w := w) (base := base) T
  have C_require_position := ok_require_position (P := P) (w := w) (base := base) T
  have C_require_widths := ok_require_widths (P := P) (w := w) (base := base) T
  refine kcallee_of (g := fun us ws => [ws.getD 1 .none, ws.getD 0 .none]) T.d_overlap sc_overlap T.g_overlap (fun _ _ _ _ _ _ us ws h0 hl => match us, ws, h0, hl with | [], [_, _], _, _ => rfl) ?_ (fun vs H Q E h => by first | (obtain ⟨rfl, _⟩ := h; rfl) | (obtain ⟨_, rfl, _⟩ := h; rfl) | (obtain ⟨_, _, rfl, _⟩ := h; rfl) | (obtain ⟨_, _, _, rfl, _⟩ := h; rfl) | (obtain ⟨_, _, _, _, rfl, _⟩ := h; rfl) | (obtain ⟨_, _, _, _, _, rfl, _⟩ := h; rfl) | (obtain ⟨_, _, _, _, _, _, rfl, _⟩ := h; rfl) | (obtain ⟨_, _, _, _, _, _, _, rfl, _⟩ := h; rfl) | (obtain ⟨_, _, _, _, _, _, _, _, rfl, _⟩ := h; rfl)) ?_
  · intro vs us zs ws r1 r2
    exact .cons (vals_getD r2 1) (.cons (vals_getD r2 0) (.nil))
  intro cdv f A outer s H vs Q E hr h
  refine ⟨_, (pss_cons (ps_expr (Hw.pe_cc C_require_widths (hr.mono (by decide)) (by rfl) pass0 (pa_cons (pv 0) pa_nil)))
      (pss_cons (ps_expr (Hw.pe_cc C_require_position (hr.mono (by decide)) (by rfl) pass0 (pa_cons (pv 1) pa_nil)))
      (pss_one (ps_ret (Hw.pe_cc C_overlap_of (hr.mono (by decide)) (by rfl) pass0 (pa_cons (Hw.pe_cc C_effective_of (hr.mono (by decide)) (by rfl) pass0 (pa_cons (pv 0) pa_nil)) (pa_cons (pv 1) pa_nil))))))), ?_⟩
  obtain ⟨a, ws, s, rfl, hs, hw, hl, hp, q⟩ := h
  refine q_drop (ev_call (ea_cons (ev_var rfl) ea_nil) (spv_retV fun H1 e Q E k => ⟨_, _, rfl, ex_l e hs, hw, hl, k⟩)) fun H1 e1 => ?_
  refine q_drop (ev_call (ea_cons (ev_var rfl) ea_nil) (spv_retV fun H1 e Q E k => ⟨_, rfl, hp, k⟩)) fun H2 e2 => ?_
  exact s_ret (ev_callL (vs := [.int (s : Int)]) (el_call (ea_cons (ev_var rfl) ea_nil) (spl_retL fun H3 e3 Q E k => ⟨_, _, rfl, ex_l ((e1.trans e2).trans e3) hs, hl, k⟩)) (fun H3 e3 => ea_cons (ev_var rfl) ea_nil) fun p H3 hp e3 => spv_retV fun H4 e4 Q E k => ⟨_, _, _, rfl, ex_l e4 (sq_of hp), hw.eff, k⟩) fun H3 e3 => q H3 ((e1.trans e2).trans e3)
def sp_least_period (K : PySem.W.Frag) : Sp := fun vs H Q _ => ∃ (a : Addr) (ws : List Nat), vs = [.ref a] ∧ SqL K H a (nl ws) ∧ Wd ws ∧ ws.length ≤ 1000 ∧ RetV (vO (wholeO (eff ws))) H Q
theorem ok_least_period (T : Env K mg) : Callee P w K mg base CX0 5 "least_period" ["widths"] [] (sp_least_period K) := by
  have C_effective_of := ok_effective_of (P := P) (w := w) (base := base) T
  have C_require_widths := ok_require_widths (P := P) (w := w) (base := base) T
  have C_whole_period := ok_whole_period (P := P) (w := w) (base := base) T
  refine callee_of T.g_least_period T.d_least_period sc_least_period (fun _ _ _ _ _ _ us hl => match us, hl with | [_], _ => rfl) (fun vs H Q E h => by first | (obtain ⟨rfl, _⟩ := h; rfl) | (obtain ⟨_, rfl, _⟩ := h; rfl) | (obtain ⟨_, _, rfl, _⟩ := h; rfl) | (obtain ⟨_, _, _, rfl, _⟩ := h; rfl) | (obtain ⟨_, _, _, _, rfl, _⟩ := h; rfl) | (obtain ⟨_, _, _, _, _, rfl, _⟩ := h; rfl) | (obtain ⟨_, _, _, _, _, _, rfl, _⟩ := h; rfl) | (obtain ⟨_, _, _, _, _, _, _, rfl, _⟩ := h; rfl) | (obtain ⟨_, _, _, _, _, _, _, _, rfl, _⟩ := h; rfl)) ?_
  intro cdv f A outer s H vs Q E hr h
  refine ⟨_, (pss_cons (ps_expr (Hw.pe_cc C_require_widths (hr.mono (by decide)) (by rfl) pass0 (pa_cons (pv 0) pa_nil)))
      (pss_one (ps_ret (Hw.pe_cc C_whole_period (hr.mono (by decide)) (by rfl) pass0 (pa_cons (Hw.pe_cc C_effective_of (hr.mono (by decide)) (by rfl) pass0 (pa_cons (pv 0) pa_nil)) pa_nil))))), ?_⟩
  obtain ⟨a, ws, rfl, hs, hw, hl, q⟩ := h
  refine q_drop (ev_call (ea_cons (ev_var rfl) ea_nil) (spv_retV fun H1 e Q E k => ⟨_, _, rfl, ex_l e hs, hw, hl, k⟩)) fun H1 e1 => ?_
  exact s_ret (ev_callL (vs := []) (el_call (ea_cons (ev_var rfl) ea_nil) (spl_retL fun H3 e3 Q E k => ⟨_, _, rfl, ex_l (e1.trans e3) hs, hl, k⟩)) (fun H3 e3 => ea_nil) fun p H3 hp e3 => spv_retV fun H4 e4 Q E k => ⟨_, _, rfl, ex_l e4 (sq_of hp), hw.eff, k⟩) fun H3 e3 => q H3 (e1.trans e3)
end

/-! ### the law's numbers -/
theorem rv_addN {x y : Nat} {H : Hp} : RV (rI0 fun i j => .int (i + j)) (.int (x : Int)) (.int (y : Int)) H (.int ((x + y : Nat) : Int)) := by
  rw [Int.natCast_add]
  exact rv_I0
theorem rv_subN {x y : Nat} {H : Hp} (h : y ≤ x) : RV (rI0 fun i j => .int (i - j)) (.int (x : Int)) (.int (y : Int)) H (.int ((x - y : Nat) : Int)) := by
  rw [Int.natCast_sub h]
  exact rv_I0
theorem rv_mulN {x y : Nat} {H : Hp} (h : x < 2 ^ 64 ∨ y < 2 ^ 64) : RV (rI CMul fun i j => .int (i * j)) (.int (x : Int)) (.int (y : Int)) H (.int ((x * y : Nat) : Int)) := by
  rw [Int.natCast_mul]
  refine rv_I ?_
  rcases h with h | h
  · exact .inl ⟨by omega, by omega⟩
  · exact .inr ⟨by omega, by omega⟩
theorem rv_modN {x y : Nat} {H : Hp} (h : 0 < y) : RV (rI (fun _ j => 0 < j) fun i j => .int (i % j)) (.int (x : Int)) (.int (y : Int)) H (.int ((x % y : Nat) : Int)) := by
  rw [Int.natCast_emod]
  exact rv_I (by omega)
theorem rv_fdivN {x y b : Nat} {H : Hp} (h : 0 < y) (hb : y < 2 ^ b) (h0 : 0 < b) (h9 : b ≤ 9000) : RV (rI CDivW fun i j => .int (i / j)) (.int (x : Int)) (.int (y : Int)) H (.int ((x / y : Nat) : Int)) := by
  rw [Int.natCast_ediv]
  exact rv_I (wide_div (b := b) (by omega) (by rw [Int.natAbs_natCast]; exact hb) h0 h9)
theorem rv_powN {x y b : Nat} {H : Hp} (h : x < 2 ^ b) (h0 : 0 < b) (hb : b * y ≤ 2 ^ 27) : RV (rI CPowW fun i j => .int (i ^ j.toNat)) (.int (x : Int)) (.int (y : Int)) H (.int ((x ^ y : Nat) : Int)) := by
  rw [Int.natCast_pow]
  have := rv_I (g := fun i j => V.int (i ^ j.toNat)) (H := H) (cpow (i := (x : Int)) (k := y) (by rw [Int.natAbs_natCast]; exact h) h0 hb)
  rw [Int.toNat_natCast] at this
  exact this
theorem ev_n {σ : L2.St} {H : Hp} (n : Nat) : Ev (tC (.int (n : Int))) σ H (.int (n : Int)) := ev_c
/-- the numbers at n: two and a count, with room for k draws more -/
def Nb (n : Addr) (k : Nat) (H : Hp) : Prop := ∃ a b c : Nat, H n = some (.lst [.int (a : Int), .int (b : Int), .int (c : Int)]) ∧ b < 10 ^ 40 ∧ c + k ≤ 10 ^ 9
theorem Nb.ex {n : Addr} {k : Nat} {H H' : Hp} (h : Nb n k H) (e : Ex H H') : Nb n k H' := by
  obtain ⟨a, b, c, h1, h2⟩ := h
  exact ⟨a, b, c, e _ _ h1, h2⟩
theorem Nb.le {n : Addr} {k j : Nat} {H : Hp} (h : Nb n k H) (hj : j ≤ k) : Nb n j H := by
  obtain ⟨a, b, c, h1, h2, h3⟩ := h
  exact ⟨a, b, c, h1, h2, by omega⟩
/-- all but n stays -/
def ExB (n : Addr) (H H' : Hp) : Prop := ∀ x o, x ≠ n → H x = some o → H' x = some o
theorem ExB.refl (n : Addr) (H : Hp) : ExB n H H := fun _ _ _ h => h
theorem ExB.trans {n : Addr} {H H1 H2 : Hp} (a : ExB n H H1) (b : ExB n H1 H2) : ExB n H H2 := fun x o hx h => b x o hx (a x o hx h)
theorem ExB.of {n : Addr} {H H' : Hp} (e : Ex H H') : ExB n H H' := fun x o _ h => e x o h
theorem ExB.upd (n : Addr) (H : Hp) (o : HO) : ExB n H (upd H n o) := fun x u hx h => by
  rw [upd_ne hx]
  exact h
theorem ExB.free {n x : Addr} {H H' : Hp} (e : ExB n H H') (hx : x ≠ n) (h : H' x = none) : H x = none := by
  cases q : H x with
  | none => rfl
  | some o => rw [e x o hx q] at h; cases h
section
variable {P : Program} {w : World} {K : PySem.W.Frag} {mg : Str → Option Value} {base : Heap}
theorem ix3 {l : Addr} {x y z : V} {H H' : Hp} (h : H l = some (.lst [x, y, z])) (e : Ex H H') : RV (rIxL K) (.ref l) (.int 0) H' x ∧ RV (rIxL K) (.ref l) (.int 1) H' y ∧ RV (rIxL K) (.ref l) (.int 2) H' z :=
  ⟨rv_ixL (sq_of (e _ _ h)) (atI_nat (j := 0) rfl), rv_ixL (sq_of (e _ _ h)) (atI_nat (j := 1) rfl), rv_ixL (sq_of (e _ _ h)) (atI_nat (j := 2) rfl)⟩
def sp__law_pick (K : PySem.W.Frag) : Sp := fun vs H Q _ => ∃ (n : Addr) (bd k : Nat), vs = [.ref n, .int (bd : Int)] ∧ 0 < bd ∧ bd < 2 ^ 200 ∧ Nb n (k + 1) H ∧
  ∀ (r : Nat) (H' : Hp), r < bd → ExB n H H' → Nb n k H' → Q (.int (r : Int)) H'
def mix1 (b c : Nat) : Nat := (b + 179424673 * c) ^ 3 % (10 ^ 40 + 121)
def mix2 (b c : Nat) : Nat := (mix1 b c + 32452843 * c) ^ 2 % (10 ^ 41 + 37)
theorem mix1_lt (b c : Nat) : mix1 b c < 10 ^ 40 + 121 := Nat.mod_lt _ (by decide)
theorem mixA {b c : Nat} (hb : b < 10 ^ 40) (hc : c ≤ 10 ^ 9) : b + 179424673 * c < 2 ^ 139 :=
  Nat.lt_of_lt_of_le (Nat.add_lt_add_of_lt_of_le hb (Nat.mul_le_mul_left 179424673 hc)) (by decide)
theorem mixB (b : Nat) {c : Nat} (hc : c ≤ 10 ^ 9) : mix1 b c + 32452843 * c < 2 ^ 139 :=
  Nat.lt_of_lt_of_le (Nat.add_lt_add_of_lt_of_le (mix1_lt b c) (Nat.mul_le_mul_left 32452843 hc)) (by decide)
theorem ok__law_pick (T : Env K mg) : Callee P w K mg base CX0 1 "_law_pick" ["numbers", "bound"] [] (sp__law_pick K) := by
  refine callee_of T.g__law_pick T.d__law_pick sc__law_pick (fun _ _ _ _ _ _ us hl => match us, hl with | [_, _], _ => rfl) (fun vs H Q E h => by first | (obtain ⟨rfl, _⟩ := h; rfl) | (obtain ⟨_, rfl, _⟩ := h; rfl) | (obtain ⟨_, _, rfl, _⟩ := h; rfl) | (obtain ⟨_, _, _, rfl, _⟩ := h; rfl) | (obtain ⟨_, _, _, _, rfl, _⟩ := h; rfl) | (obtain ⟨_, _, _, _, _, rfl, _⟩ := h; rfl) | (obtain ⟨_, _, _, _, _, _, rfl, _⟩ := h; rfl) | (obtain ⟨_, _, _, _, _, _, _, rfl, _⟩ := h; rfl) | (obtain ⟨_, _, _, _, _, _, _, _, rfl, _⟩ := h; rfl)) ?_
  intro cdv f A outer s H vs Q E hr h
  refine ⟨_, (pss_cons (ps_if (pt_cmpR op_gt (pe_ix ix_list (pv 0) pe_int (fun _ _ => rfl)) pe_int (nomark _)) (pss_cons (ps_set (i := 2) sc__law_pick.nd rfl (Or.inl rfl) (pe_op op_mod (pe_ix ix_list (pv 0) pe_int (fun _ _ => rfl)) (pv 1)))
      (pss_cons (ps_asg (pe_op op_fdivW (pe_ix ix_list (pv 0) pe_int (fun _ _ => rfl)) (pv 1)) (pg_sub (pv 0) pe_int set_list))
      (pss_one (ps_ret (pv 2))))) pss_nil)
      (pss_cons (ps_asg (pe_op op_add (pe_ix ix_list (pv 0) pe_int (fun _ _ => rfl)) pe_int) (pg_sub (pv 0) pe_int set_list))
      (pss_cons (ps_set (i := 3) sc__law_pick.nd rfl (Or.inl rfl) (pe_op op_mod (pe_op Hw.op_powW (pe_op op_add (pe_ix ix_list (pv 0) pe_int (fun _ _ => rfl)) (pe_op op_mul pe_int (pe_ix ix_list (pv 0) pe_int (fun _ _ => rfl)))) pe_int) (pe_op op_add (pe_op Hw.op_powW pe_int pe_int) pe_int)))
      (pss_cons (ps_set (i := 3) sc__law_pick.nd rfl (Or.inl rfl) (pe_op op_mod (pe_op Hw.op_powW (pe_op op_add (pv 3) (pe_op op_mul pe_int (pe_ix ix_list (pv 0) pe_int (fun _ _ => rfl)))) pe_int) (pe_op op_add (pe_op Hw.op_powW pe_int pe_int) pe_int)))
      (pss_one (ps_ret (pe_op op_mod (pe_op op_fdivW (pv 3) (pe_op Hw.op_powW pe_int pe_int)) (pv 1)))))))), ?_⟩
  obtain ⟨n, bd, k, rfl, hb0, hb1, ⟨a, b, c, hn, hbb, hc⟩, q⟩ := h
  have hix := fun H' (e : Ex H H') => ix3 (K := K) hn e
  refine q_when (b := decide ((0 : Int) < (a : Int))) (et_test (ev_op (ev_op (ev_var rfl) ev_c (hix _ (Ex.refl _)).1) ev_c rv_I0)) (fun hb H1 e1 => ?_) (fun hb H1 e1 => ?_)
  · refine q_asg (v := .int ((a % bd : Nat) : Int)) (ev_op (ev_op (ev_var rfl) ev_c (hix _ e1).1) (ev_var rfl) (rv_modN hb0)) fun H2 e2 => ?_
    refine q_setL (j := 0) (v := .int ((a / bd : Nat) : Int)) (e2 _ _ (e1 _ _ hn)) (ev_op (ev_op (ev_var rfl) ev_c (hix _ (e1.trans e2)).1) (ev_var rfl) (rv_fdivN hb0 hb1 (by decide) (by decide))) (ev_var rfl) ev_c (show 0 < 3 by decide) fun H3 e3 => ?_
    refine s_ret (ev_var rfl) fun H4 e4 => ?_
    refine q _ H4 (Nat.mod_lt _ hb0) ?_ ⟨a / bd, b, c, e4 _ _ upd_same, hbb, by omega⟩
    exact ((ExB.of ((e1.trans e2).trans e3)).trans (ExB.upd n H3 _)).trans (ExB.of e4)
  · refine q_setL (j := 2) (v := .int ((c + 1 : Nat) : Int)) (e1 _ _ hn) (ev_op (ev_op (ev_var rfl) ev_c (hix _ e1).2.2) (ev_n 1) rv_addN) (ev_var rfl) ev_c (show 2 < 3 by decide) fun H2 e2 => ?_
    have h3 : upd H2 n (HO.lst ([V.int (a : Int), .int (b : Int), .int (c : Int)].set 2 (.int ((c + 1 : Nat) : Int)))) n = some (.lst [.int (a : Int), .int (b : Int), .int ((c + 1 : Nat) : Int)]) := upd_same
    have hi2 := fun H' (e : Ex (upd H2 n (HO.lst ([V.int (a : Int), .int (b : Int), .int (c : Int)].set 2 (.int ((c + 1 : Nat) : Int))))) H') => ix3 (K := K) h3 e
    have cl : c + 1 ≤ 10 ^ 9 := by omega
    refine q_asg (v := .int ((mix1 b (c + 1) : Nat) : Int)) (ev_op (ev_op (ev_op (ev_op (ev_var rfl) ev_c (hi2 _ (Ex.refl _)).2.1) (ev_op (ev_n 179424673) (ev_op (ev_var rfl) ev_c (hi2 _ (Ex.refl _)).2.2) (rv_mulN (.inl (by decide)))) rv_addN) (ev_n 3) (rv_powN (b := 139) (mixA hbb cl) (by decide) (by decide)))
      (ev_op (ev_op (ev_n 10) (ev_n 40) (rv_powN (b := 4) (by decide) (by decide) (by decide))) (ev_n 121) rv_addN) (rv_modN (by omega))) fun H3 e3 => ?_
    refine q_asg (v := .int ((mix2 b (c + 1) : Nat) : Int)) (ev_op (ev_op (ev_op (ev_var rfl) (ev_op (ev_n 32452843) (ev_op (ev_var rfl) ev_c (hi2 _ e3).2.2) (rv_mulN (.inl (by decide)))) rv_addN) (ev_n 2) (rv_powN (b := 139) (mixB b cl) (by decide) (by decide)))
      (ev_op (ev_op (ev_n 10) (ev_n 41) (rv_powN (b := 4) (by decide) (by decide) (by decide))) (ev_n 37) rv_addN) (rv_modN (by omega))) fun H4 e4 => ?_
    refine s_ret (v := .int ((mix2 b (c + 1) / 10 ^ 5 % bd : Nat) : Int)) (ev_op (ev_op (ev_var rfl) (ev_op (ev_n 10) (ev_n 5) (rv_powN (b := 4) (by decide) (by decide) (by decide))) (rv_fdivN (b := 20) (by decide) (by decide) (by decide) (by decide))) (ev_var rfl) (rv_modN hb0)) fun H5 e5 => ?_
    refine q _ H5 (Nat.mod_lt _ hb0) ?_ ⟨a, b, c + 1, ((e3.trans e4).trans e5) _ _ h3, hbb, by omega⟩
    exact ((ExB.of (e1.trans e2)).trans (ExB.upd n H2 _)).trans (ExB.of ((e3.trans e4).trans e5))
def sp__law_numbers (K : PySem.W.Frag) : Sp := fun vs H Q _ => ∃ (a : Addr) (ns : List Int) (k : Nat), vs = [.ref a, .int (k : Int)] ∧ SqL K H a (il ns) ∧ ns.length ≤ 1000 ∧ k ≤ 1000 ∧
  ∀ (n : Addr) (H' : Hp), H n = none → Ex H H' → Nb n (10 ^ 8) H' → Q (.ref n) H'
theorem absN (z : Int) : (if z < 0 then -z else z) = ((z.natAbs : Nat) : Int) := by
  split <;> omega
theorem il_at {ns : List Int} {i : Nat} (h : i < ns.length) : atI (il ns) (i : Int) = some (.int (ns.getD i 0)) := by
  refine atI_nat ?_
  unfold il
  rw [List.getElem?_map, List.getElem?_eq_getElem h]
  simp [List.getD, h]
theorem rc_lenI {K : PySem.W.Frag} {H : Hp} {a : Addr} {ws : List Int} (hs : SqL K H a (il ws)) : RC (fun xs H Q => ∃ p ys, xs = [.ref p] ∧ (SqL K H p ys ∨ SqT K H p ys) ∧ Q (.int ys.length) H) [.ref a] H (.int (ws.length : Int)) := by
  have := rc_len hs
  rw [il_len] at this
  exact this
theorem ok__law_numbers (T : Env K mg) : Callee P w K mg base CX0 1 "_law_numbers" ["script", "k"] [] (sp__law_numbers K) := by
  refine callee_of T.g__law_numbers T.d__law_numbers sc__law_numbers (fun _ _ _ _ _ _ us hl => match us, hl with | [_, _], _ => rfl) (fun vs H Q E h => by first | (obtain ⟨rfl, _⟩ := h; rfl) | (obtain ⟨_, rfl, _⟩ := h; rfl) | (obtain ⟨_, _, rfl, _⟩ := h; rfl) | (obtain ⟨_, _, _, rfl, _⟩ := h; rfl) | (obtain ⟨_, _, _, _, rfl, _⟩ := h; rfl) | (obtain ⟨_, _, _, _, _, rfl, _⟩ := h; rfl) | (obtain ⟨_, _, _, _, _, _, rfl, _⟩ := h; rfl) | (obtain ⟨_, _, _, _, _, _, _, rfl, _⟩ := h; rfl) | (obtain ⟨_, _, _, _, _, _, _, _, rfl, _⟩ := h; rfl)) ?_
  intro cdv f A outer s H vs Q E hr h
  refine ⟨_, (pss_cons (ps_set (i := 2) sc__law_numbers.nd rfl (Or.inl rfl) (pe_ifExp (pt_cmpR op_lt (pv 1) (pe_callB call_len_seq (by rfl) T.n_len PySem.boot_len (pa_cons (pv 0) pa_nil)) (nomark _)) (pe_ix ix_list (pv 0) (pv 1) (fun _ _ => rfl)) pe_int))
      (pss_one (ps_ret (pe_lst (pa_cons (pe_callB (call_max2 rfl) (by rfl) T.n_max (by decide +kernel) (pa_cons pe_int (pa_cons (pe_op op_sub (pe_callB call_abs (by rfl) T.n_abs (by decide +kernel) (pa_cons (pv 2) pa_nil)) (pe_op Hw.op_powW pe_int pe_int)) pa_nil))) (pa_cons (pe_op op_mod (pe_op op_add (pe_op op_add (pe_op op_mul (pv 2) pe_int) (pe_op op_mul pe_int (pv 1))) pe_int) (pe_op op_add (pe_op Hw.op_powW pe_int pe_int) pe_int)) (pa_cons pe_int pa_nil))))))), ?_⟩
  obtain ⟨a, ns, k, rfl, hs, hl, hk, q⟩ := h
  refine q_asg (v := .int (ns.getD k 0)) (ev_if (b := decide ((k : Int) < (ns.length : Int))) (et_test (ev_op (ev_var rfl) (ev_cb (ea_cons (ev_var rfl) ea_nil) (rc_lenI hs)) rv_I0)) (fun hb => ?_) fun hb => ?_) fun H1 e1 => ?_
  · have := of_decide_eq_true hb
    exact ev_op (ev_var rfl) (ev_var rfl) (rv_ixL hs (il_at (by omega)))
  · have := of_decide_eq_false hb
    have e : ns.getD k 0 = 0 := by
      unfold List.getD
      rw [List.getElem?_eq_none (by omega)]
      rfl
    rw [e]
    exact ev_c
  · generalize ns.getD k 0 = z
    have h3 : (z * 89 + 23 * (k : Int) + 7) % ((10 ^ 39 + 3 : Nat) : Int) = ((((z * 89 + 23 * (k : Int) + 7) % ((10 ^ 39 + 3 : Nat) : Int)).toNat : Nat) : Int) := by
      rw [Int.toNat_of_nonneg (Int.emod_nonneg _ (by decide))]
    have h3l : ((z * 89 + 23 * (k : Int) + 7) % ((10 ^ 39 + 3 : Nat) : Int)).toNat < 10 ^ 40 := by
      have := Int.emod_lt_of_pos (z * 89 + 23 * (k : Int) + 7) (b := ((10 ^ 39 + 3 : Nat) : Int)) (by decide)
      omega
    refine s_retL (xs := [.int ((z.natAbs - 10 ^ 18 : Nat) : Int), .int ((((z * 89 + 23 * (k : Int) + 7) % ((10 ^ 39 + 3 : Nat) : Int)).toNat : Nat) : Int), .int ((0 : Nat) : Int)]) ?_ fun p H2 hp e2 h2 => q p H2 (fresh_back e1 hp) (e1.trans e2) ⟨_, _, _, h2, h3l, by decide⟩
    refine el_lst (ea_cons ?_ (ea_cons ?_ (ea_cons ev_c ea_nil))) (show 3 ≤ 100000 by decide)
    · refine ev_is (ev_cb (ea_cons ev_c (ea_cons (ev_op (ev_cb (ea_cons (ev_var rfl) ea_nil) rc_abs) (ev_op (ev_n 10) (ev_n 18) (rv_powN (b := 4) (by decide) (by decide) (by decide))) rv_I0) ea_nil)) rc_max2) ?_
      rw [absN]
      congr 1
      split <;> omega
    · rw [← h3]
      exact ev_op (ev_op (ev_op (ev_op (ev_var rfl) ev_c (rv_I (.inr ⟨by decide, by decide⟩))) (ev_op ev_c (ev_var rfl) (rv_I (.inl ⟨by decide, by decide⟩))) rv_I0) ev_c rv_I0) (ev_op (ev_op (ev_n 10) (ev_n 39) (rv_powN (b := 4) (by decide) (by decide) (by decide))) (ev_n 3) rv_addN) (rv_I (by decide))
end

/-! ### what draws from the numbers: values told by a property, all but the numbers stays -/
def rm (n : Addr) (H : Hp) : Hp := fun x => if x = n then none else H x
theorem rm_self (n : Addr) (H : Hp) : rm n H n = none := if_pos rfl
theorem rm_ne {n x : Addr} {H : Hp} (h : x ≠ n) : rm n H x = H x := if_neg h
theorem rm_ex (n : Addr) (H : Hp) : Ex (rm n H) H := fun x o h => by
  by_cases e : x = n
  · subst e; rw [rm_self] at h; cases h
  · rw [rm_ne e] at h; exact h
/-- n holds the numbers, beside the world G; the heap is H -/
structure Wn (n : Addr) (k : Nat) (G H : Hp) : Prop where
  off : G n = none
  ex : Ex G H
  nb : Nb n k H
theorem Wn.of {n : Addr} {k : Nat} {H : Hp} (h : Nb n k H) : Wn n k (rm n H) H := ⟨rm_self n H, rm_ex n H, h⟩
theorem Wn.step {n : Addr} {k : Nat} {G H H' : Hp} (w : Wn n k G H) (e : Ex H H') : Wn n k G H' := ⟨w.off, w.ex.trans e, w.nb.ex e⟩
theorem Wn.le {n : Addr} {k j : Nat} {G H : Hp} (w : Wn n k G H) (h : j ≤ k) : Wn n j G H := ⟨w.off, w.ex, w.nb.le h⟩
theorem Wn.at_ne {n p : Addr} {k : Nat} {G H : Hp} {o : HO} (w : Wn n k G H) (h : G p = some o) : p ≠ n := by
  intro e
  rw [e, w.off] at h
  cases h
theorem Wn.fresh {n p : Addr} {k : Nat} {G H : Hp} (w : Wn n k G H) (h : H p = none) : p ≠ n := by
  obtain ⟨a, b, c, e, _⟩ := w.nb
  intro z
  rw [z, e] at h
  cases h
theorem Wn.exB {n : Addr} {k j : Nat} {G H H' : Hp} (w : Wn n k G H) (e : ExB n H H') (h : Nb n j H') : Wn n j G H' :=
  ⟨w.off, fun x o hx => e x o (w.at_ne hx) (w.ex x o hx), h⟩
theorem Wn.new {n p : Addr} {k : Nat} {G H H' : Hp} {o : HO} (w : Wn n k G H) (hp : H p = none) (e : Ex H H') (h : H' p = some o) : Wn n k (upd G p o) H' := by
  have ne := w.fresh hp
  refine ⟨by rw [upd_ne (Ne.symm ne)]; exact w.off, fun x u hx => ?_, w.nb.ex e⟩
  by_cases z : x = p
  · subst z
    rw [upd_same] at hx
    cases hx
    exact h
  · rw [upd_ne z] at hx
    exact e x u (w.ex x u hx)
theorem Wn.drop {n p : Addr} {k : Nat} {G H : Hp} {o : HO} (w : Wn n k (upd G p o) H) (hp : G p = none) : Wn n k G H := by
  have ne : p ≠ n := w.at_ne upd_same
  refine ⟨by have := w.off; rw [upd_ne (Ne.symm ne)] at this; exact this, fun x u hx => w.ex x u ?_, w.nb⟩
  rw [upd_ne (ne_of_none hx hp)]
  exact hx
theorem Wn.write {n p : Addr} {k : Nat} {G H : Hp} {o o' : HO} (w : Wn n k (upd G p o) H) : Wn n k (upd G p o') (upd H p o') := by
  have ne : p ≠ n := w.at_ne upd_same
  have off := w.off
  rw [upd_ne (Ne.symm ne)] at off
  refine ⟨by rw [upd_ne (Ne.symm ne)]; exact off, fun x u hx => ?_, ?_⟩
  · by_cases z : x = p
    · subst z
      rw [upd_same] at hx ⊢
      exact hx
    · rw [upd_ne z] at hx ⊢
      exact w.ex x u (by rw [upd_ne z]; exact hx)
  · obtain ⟨a, b, c, h1, h2⟩ := w.nb
    exact ⟨a, b, c, by rw [upd_ne (Ne.symm ne)]; exact h1, h2⟩
theorem Wn.sub {n : Addr} {k : Nat} {G G' H : Hp} (w : Wn n k G H) (e : Ex G' G) : Wn n k G' H := by
  refine ⟨?_, e.trans w.ex, w.nb⟩
  cases h : G' n with
  | none => rfl
  | some o =>
    have := e n o h
    rw [w.off] at this
    cases this
theorem ex_upd {G G' : Hp} {p : Addr} {o : HO} (e : Ex G G') : Ex (upd G p o) (upd G' p o) := fun x u h => by
  by_cases z : x = p
  · subst z
    rw [upd_same] at h ⊢
    exact h
  · rw [upd_ne z] at h ⊢
    exact e x u h
theorem il_set (js : List Int) (j : Nat) (z : Int) : (il js).set j (.int z) = il (js.set j z) := by
  unfold il
  rw [List.map_set]
def EvN (n : Addr) (k k' : Nat) (G : Hp) (te : TE) (σ : L2.St) (P : Int → Prop) : Prop := ∀ H, Wn n k G H → ∀ Q : VK, (∀ i H', P i → Wn n k' G H' → Q (.int i) H') → te σ H Q
def EvNA (n : Addr) (k k' : Nat) (G : Hp) (ta : TA) (σ : L2.St) (P : List Int → Prop) : Prop := ∀ H, Wn n k G H → ∀ Q : List V → Hp → Prop, (∀ js H', P js → Wn n k' G H' → Q (il js) H') → ta σ H Q
section
variable {n : Addr} {k k1 k2 : Nat} {G H : Hp} {σ : L2.St} {ta tb te : TE} {t : TT} {K : PySem.W.Frag} {Pa Pb Pz : Int → Prop}
theorem en_pure {i : Int} (h : Ev te σ G (.int i)) (hp : Pz i) : EvN n k k G te σ Pz := fun H w Q q => h H w.ex Q fun H1 e => q i H1 hp (w.step e)
theorem en_imp {P' : Int → Prop} (h : EvN n k k1 G te σ Pa) (hp : ∀ i, Pa i → P' i) : EvN n k k1 G te σ P' := fun H w Q q => h H w Q fun i H' p => q i H' (hp i p)
theorem en_I0 {f : Int → Int → Int} (ha : EvN n k k1 G ta σ Pa) (hb : EvN n k1 k2 G tb σ Pb) (h : ∀ i j, Pa i → Pb j → Pz (f i j)) : EvN n k k2 G (tOp (rI0 fun i j => .int (f i j)) ta tb) σ Pz :=
  fun H w Q q => ha H w _ fun i H1 pi w1 => hb H1 w1 _ fun j H2 pj w2 => ⟨i, j, rfl, rfl, q _ H2 (h i j pi pj) w2⟩
theorem en_I {C : Int → Int → Prop} {f : Int → Int → Int} (ha : EvN n k k1 G ta σ Pa) (hb : EvN n k1 k2 G tb σ Pb) (h : ∀ i j, Pa i → Pb j → C i j ∧ Pz (f i j)) : EvN n k k2 G (tOp (rI C fun i j => .int (f i j)) ta tb) σ Pz :=
  fun H w Q q => ha H w _ fun i H1 pi w1 => hb H1 w1 _ fun j H2 pj w2 => ⟨i, j, rfl, rfl, (h i j pi pj).1, q _ H2 (h i j pi pj).2 w2⟩
theorem en_if {b : Bool} (h : EvT t σ G b) (h1 : b = true → EvN n k k1 G ta σ Pz) (h2 : b = false → EvN n k k1 G tb σ Pz) : EvN n k k1 G (tIf t ta tb) σ Pz :=
  fun H w Q q => h H w.ex _ fun H1 e => by
    cases b with
    | true => exact h1 rfl H1 (w.step e) Q q
    | false => exact h2 rfl H1 (w.step e) Q q
theorem en_le {j : Nat} (h : EvN n k1 k2 G te σ Pz) (hj : k1 ≤ j) : EvN n j k2 G te σ Pz := fun H w Q q => h H (w.le hj) Q q
theorem en_weak {j : Nat} (h : EvN n k k2 G te σ Pz) (hj : j ≤ k2) : EvN n k j G te σ Pz := fun H w Q q => h H w Q fun i H' p w' => q i H' p (w'.le hj)
theorem en_pick {E : XK} {i m : Nat} (hv : σ[i]? = some (some (.ref n))) (hb : Ev tb σ G (.int (m : Int))) (h0 : 0 < m) (h1 : m < 2 ^ 200) :
    EvN n (k + 1) k G (tCall (sp__law_pick K) [] E (tCons (tVar i) (tCons tb tNil))) σ fun z => ∃ r : Nat, z = (r : Int) ∧ r < m := by
  intro H w Q q
  refine ⟨_, hv, ?_⟩
  refine hb H w.ex _ fun H1 e => ?_
  have w1 := w.step e
  exact ⟨n, m, k, rfl, h0, h1, w1.nb, fun r H' hr eb nb => q _ H' ⟨r, rfl, hr⟩ (w1.exB eb nb)⟩
theorem en_max2 (ha : EvN n k k1 G ta σ Pa) (hb : EvN n k1 k2 G tb σ Pb) (h : ∀ i j, Pa i → Pb j → Pz (if j > i then j else i)) :
    EvN n k k2 G (tCB (fun xs H Q => ∃ i j, xs = [.int i, .int j] ∧ Q (.int (if j > i then j else i)) H) (tCons ta (tCons tb tNil))) σ Pz :=
  fun H w Q q => ha H w _ fun i H1 pi w1 => hb H1 w1 _ fun j H2 pj w2 => ⟨i, j, rfl, q _ H2 (h i j pi pj) w2⟩
theorem en_min2 (ha : EvN n k k1 G ta σ Pa) (hb : EvN n k1 k2 G tb σ Pb) (h : ∀ i j, Pa i → Pb j → Pz (if j < i then j else i)) :
    EvN n k k2 G (tCB (fun xs H Q => ∃ i j, xs = [.int i, .int j] ∧ Q (.int (if j < i then j else i)) H) (tCons ta (tCons tb tNil))) σ Pz :=
  fun H w Q q => ha H w _ fun i H1 pi w1 => hb H1 w1 _ fun j H2 pj w2 => ⟨i, j, rfl, q _ H2 (h i j pi pj) w2⟩
/-- an item of a list of the world at a drawn place -/
theorem en_ix {p : Addr} {js : List Int} (ha : Ev ta σ G (.ref p)) (hs : SqL K G p (il js)) (hb : EvN n k k1 G tb σ fun i => 0 ≤ i ∧ i < (js.length : Int)) (h : ∀ j ∈ js, Pz j) : EvN n k k1 G (tOp (rIxL K) ta tb) σ Pz := by
  intro H w Q q
  refine ha H w.ex _ fun H1 e1 => ?_
  refine hb H1 (w.step e1) _ fun i H2 hi w2 => ?_
  have e : i = ((i.toNat : Nat) : Int) := by omega
  have hl : i.toNat < js.length := by omega
  refine ⟨p, il js, i, .int (js.getD i.toNat 0), rfl, rfl, ex_l w2.ex hs, by rw [e]; exact il_at hl, q _ H2 (h _ ?_) w2⟩
  simp [List.getD, hl]
theorem ena_nil {P : List Int → Prop} (h : P []) : EvNA n k k G tNil σ P := fun H w Q q => q [] H h w
theorem ena_cons {tr : TA} {Pr P : List Int → Prop} (ha : EvN n k k1 G ta σ Pa) (hr : EvNA n k1 k2 G tr σ Pr) (h : ∀ i js, Pa i → Pr js → P (i :: js)) : EvNA n k k2 G (tCons ta tr) σ P :=
  fun H w Q q => ha H w _ fun i H1 pi w1 => hr H1 w1 _ fun js H2 pj w2 => q (i :: js) H2 (h i js pi pj) w2
/-! statements -/
variable {D : Ends} {tu tz : TS} {i : Nat} {P : List Int → Prop}
theorem n_asg (h : EvN n k k1 G te σ Pz) (w : Wn n k G H) (q : ∀ z H1, Pz z → Wn n k1 G H1 → tz D (σ.set i (some (.int z))) H1) : tSeq (tAsg te (gName i)) tz D σ H := h H w _ q
theorem n_asgL {ta : TA} (h : EvNA n k k1 G ta σ P) (hl : ∀ js, P js → js.length ≤ 100000) (w : Wn n k G H)
    (q : ∀ js p H1, P js → G p = none → p ≠ n → Wn n k1 (upd G p (.lst (il js))) H1 → tz D (σ.set i (some (.ref p))) H1) : tSeq (tAsg (tLst ta) (gName i)) tz D σ H :=
  h H w _ fun js H1 pj w1 => ⟨by rw [il_len]; exact sz_of (hl js pj), fun p hp => q js p _ pj (fresh_back w1.ex hp) (w1.fresh hp) (w1.new hp (Ex.new hp) upd_same)⟩
/-- xs[j] = e, xs a list of one's own at p -/
theorem n_setL {p : Addr} {xs : List V} {j : Nat} {to ti : TE} (h : EvN n k k1 (upd G p (.lst xs)) te σ Pz) (ho : Ev to σ (upd G p (.lst xs)) (.ref p)) (hi : Ev ti σ (upd G p (.lst xs)) (.int (j : Int))) (hj : j < xs.length) (w : Wn n k (upd G p (.lst xs)) H)
    (q : ∀ z H1, Pz z → Wn n k1 (upd G p (.lst (xs.set j (.int z)))) H1 → tz D σ H1) : tSeq (tAsg te (gSub to ti rSetL)) tz D σ H :=
  h H w _ fun z H1 pz w1 => ho H1 w1.ex _ fun H2 e2 => hi H2 (w1.ex.trans e2) _ fun H3 e3 =>
    ⟨p, xs, (j : Int), j, rfl, rfl, ((w1.step e2).step e3).ex p _ upd_same, ixN_nat hj, q z _ pz ((w1.step e2).step e3).write⟩
/-- xs + [..], [..] + xs: xs a list of the world, the display drawn -/
theorem n_asgCatR {ta : TE} {tr : TA} {p : Addr} {xs : List V} (ho : Ev ta σ G (.ref p)) (hp : G p = some (.lst xs)) (h : EvNA n k k1 G tr σ P) (hl : ∀ js, P js → xs.length + js.length ≤ 100000) (w : Wn n k G H)
    (q : ∀ js p2 H1, P js → G p2 = none → p2 ≠ n → Wn n k1 (upd G p2 (.lst (xs ++ il js))) H1 → tz D (σ.set i (some (.ref p2))) H1) : tSeq (tAsg (tOp rCat ta (tLst tr)) (gName i)) tz D σ H :=
  ho H w.ex _ fun H1 e1 => h H1 (w.step e1) _ fun js H2 pj w2 => ⟨by rw [il_len]; have := hl js pj; exact sz_of (by omega), fun p1 hp1 => by
    have e2 : Ex H2 (upd H2 p1 (.lst (il js))) := Ex.new hp1
    have w3 := w2.step e2
    exact ⟨p, p1, xs, il js, rfl, rfl, w3.ex _ _ hp, upd_same, by rw [il_len]; have := hl js pj; exact sz_of (by omega), fun p2 hp2 => q js p2 _ pj (fresh_back w3.ex hp2) (w3.fresh hp2) (w3.new hp2 (Ex.new hp2) upd_same)⟩⟩
theorem n_asgCatL {tb : TE} {tr : TA} {p : Addr} {xs : List V} (ho : Ev tb σ G (.ref p)) (hp : G p = some (.lst xs)) (h : EvNA n k k1 G tr σ P) (hl : ∀ js, P js → js.length + xs.length ≤ 100000) (w : Wn n k G H)
    (q : ∀ js p2 H1, P js → G p2 = none → p2 ≠ n → Wn n k1 (upd G p2 (.lst (il js ++ xs))) H1 → D.nx (σ.set i (some (.ref p2))) H1) : tAsg (tOp rCat (tLst tr) tb) (gName i) D σ H :=
  h H w _ fun js H2 pj w2 => ⟨by rw [il_len]; have := hl js pj; exact sz_of (by omega), fun p1 hp1 => by
    have e2 : Ex H2 (upd H2 p1 (.lst (il js))) := Ex.new hp1
    have w3 := w2.step e2
    refine ho _ w3.ex _ fun H4 e4 => ?_
    have w4 := w3.step e4
    exact ⟨p1, p, il js, xs, rfl, rfl, e4 _ _ upd_same, w4.ex _ _ hp, by rw [il_len]; have := hl js pj; exact sz_of (by omega), fun p2 hp2 => q js p2 _ pj (fresh_back w4.ex hp2) (w4.fresh hp2) (w4.new hp2 (Ex.new hp2) upd_same)⟩⟩
/-- for x in range(a drawn number) -/
theorem n_forR1 {ta : TA} {j B : Nat} (h : EvNA n k k1 G ta σ fun js => ∃ r : Nat, js = [(r : Int)] ∧ r ≤ B) (hB : B ≤ 100000) (w : Wn n k G H) (Pv : Nat → L2.St → Hp → Prop) (h0 : ∀ H1, Wn n k1 G H1 → Pv 0 σ H1)
    (hs : ∀ (i : Nat) σ' H', i < B → Pv i σ' H' → tu { D with nx := Pv (i + 1), ct := Pv (i + 1), bk := tz D } (σ'.set j (some (.int (i : Int)))) H') (hd : ∀ i σ' H', i ≤ B → Pv i σ' H' → tz D σ' H') : tSeq (tFor (iRng1 ta) (gName j) tu) tz D σ H :=
  h H w _ fun js H1 pj w1 => by
    obtain ⟨r, rfl, hr⟩ := pj
    refine ⟨(r : Int), rfl, by omega, by omega, for_range (lo := 0) (n := ((r : Int)).toNat) Pv (h0 H1 w1) (fun i σ' H' hi p => ?_) fun σ' H' p => hd _ σ' H' (by omega) p⟩
    have e0 : (0 : Int) + (i : Int) = (i : Int) := Int.zero_add _
    show tu { D with nx := Pv (i + 1), ct := Pv (i + 1), bk := tz D } (σ'.set j (some (.int ((0 : Int) + (i : Int))))) H'
    rw [e0]
    exact hs i σ' H' (by omega) p
end
section
variable {P : Program} {w : World} {K : PySem.W.Frag} {mg : Str → Option Value} {base : Heap}
theorem nl_as_il (ws : List Nat) : nl ws = il (ws.map fun (n : Nat) => (n : Int)) := nl_il ws
theorem nl_sum_il (ws : List Nat) (a b : Nat) : cutV (nl ws) (some (a : Int)) (some (b : Int)) = il (((ws.take b).drop a).map fun (n : Nat) => (n : Int)) := by
  rw [cutV_nn, nl_take, nl_drop, nl_il]
def sp__law_plan (K : PySem.W.Frag) : Sp := fun vs H Q _ => ∃ (n : Addr) (most wide k : Nat), vs = [.ref n, .int (most : Int), .int (wide : Int)] ∧ most ≤ 1000 ∧ 1 ≤ wide ∧ wide ≤ 10000 ∧ Nb n (k + 1 + 6 * most) H ∧
  ∀ (p : Addr) (ws : List Nat) (H' : Hp), H p = none → p ≠ n → ExB n H H' → H' p = some (.lst (nl ws)) → (∀ x ∈ ws, 1 ≤ x ∧ x ≤ wide) → ws.length ≤ most → Nb n k H' → Q (.ref p) H'
theorem ok__law_plan (T : Env K mg) : Callee P w K mg base CX0 2 "_law_plan" ["numbers", "most", "wide"] [] (sp__law_plan K) := by
  have C__law_pick := ok__law_pick (P := P) (w := w) (base := base) T
  refine callee_of T.g__law_plan T.d__law_plan sc__law_plan (fun _ _ _ _ _ _ us hl => match us, hl with | [_, _, _], _ => rfl) (fun vs H Q E h => by first | (obtain ⟨rfl, _⟩ := h; rfl) | (obtain ⟨_, rfl, _⟩ := h; rfl) | (obtain ⟨_, _, rfl, _⟩ := h; rfl) | (obtain ⟨_, _, _, rfl, _⟩ := h; rfl) | (obtain ⟨_, _, _, _, rfl, _⟩ := h; rfl) | (obtain ⟨_, _, _, _, _, rfl, _⟩ := h; rfl) | (obtain ⟨_, _, _, _, _, _, rfl, _⟩ := h; rfl) | (obtain ⟨_, _, _, _, _, _, _, rfl, _⟩ := h; rfl) | (obtain ⟨_, _, _, _, _, _, _, _, rfl, _⟩ := h; rfl)) ?_
  intro cdv f A outer s H vs Q E hr h
  refine ⟨_, (pss_cons (ps_set (i := 3) sc__law_plan.nd rfl (Or.inl rfl) (pe_lst pa_nil))
      (pss_cons (ps_for PassesOwn.never rfl (pi_range1 (by rfl) T.n_range (pa_cons (Hw.pe_cc C__law_pick (hr.mono (by decide)) (by rfl) pass0 (pa_cons (pv 0) (pa_cons (pe_op op_add (pv 1) pe_int) pa_nil))) pa_nil)) (pg_name (i := 4) sc__law_plan.nd rfl (Or.inl rfl))
      (pss_cons (ps_set (i := 5) sc__law_plan.nd rfl (Or.inl rfl) (pe_ifExp (pt_cmpR (op_neD hr.units) (pv 3) (pe_lst pa_nil) (nomark _)) (pe_ix ix_list (pv 3) pe_int (fun _ _ => rfl)) (pe_op op_add pe_int (Hw.pe_cc C__law_pick (hr.mono (by decide)) (by rfl) pass0 (pa_cons (pv 0) (pa_cons pe_int pa_nil))))))
      (pss_cons (ps_set (i := 6) sc__law_plan.nd rfl (Or.inl rfl) (pe_lst (pa_cons (pe_op op_add pe_int (Hw.pe_cc C__law_pick (hr.mono (by decide)) (by rfl) pass0 (pa_cons (pv 0) (pa_cons (pv 2) pa_nil)))) (pa_cons (pe_op op_mul (pv 5) (pe_op op_add pe_int (Hw.pe_cc C__law_pick (hr.mono (by decide)) (by rfl) pass0 (pa_cons (pv 0) (pa_cons pe_int pa_nil))))) pa_nil))))
      (pss_cons (ps_asg (pe_op op_add (pe_ix ix_list (pv 6) pe_int (fun _ _ => rfl)) (Hw.pe_cc C__law_pick (hr.mono (by decide)) (by rfl) pass0 (pa_cons (pv 0) (pa_cons (pe_op op_add (pv 5) pe_int) pa_nil)))) (pg_sub (pv 6) pe_int set_list))
      (pss_cons (ps_set (i := 6) sc__law_plan.nd rfl (Or.inl rfl) (pe_op op_cat (pv 6) (pe_lst (pa_cons (pe_op op_add (pe_op op_add (pv 5) (pe_callB (cr_sum rfl) (by rfl) T.n_sum (by decide +kernel) (pa_cons (pe_slice sl_list (pv 3) (po_some pe_int) (po_some pe_int)) pa_nil))) (Hw.pe_cc C__law_pick (hr.mono (by decide)) (by rfl) pass0 (pa_cons (pv 0) (pa_cons pe_int pa_nil)))) (pa_cons (pv 5) pa_nil)))))
      (pss_one (ps_set (i := 3) sc__law_plan.nd rfl (Or.inl rfl) (pe_op op_cat (pe_lst (pa_cons (pe_callB (call_max2 rfl) (by rfl) T.n_max (by decide +kernel) (pa_cons pe_int (pa_cons (pe_callB (call_min2 rfl) (by rfl) T.n_min (by decide +kernel) (pa_cons (pv 2) (pa_cons (pe_ix ix_list (pv 6) (pe_op op_mod (Hw.pe_cc C__law_pick (hr.mono (by decide)) (by rfl) pass0 (pa_cons (pv 0) (pa_cons pe_int pa_nil))) pe_int) (fun _ _ => rfl)) pa_nil))) pa_nil))) pa_nil)) (pv 3)))))))))
      (pss_one (ps_ret (pv 3))))), ?_⟩
  obtain ⟨n, most, wide, k, rfl, hm, hw1, hw2, hnb, q⟩ := h
  have w0 := Wn.of hnb
  refine ⟨Nat.zero_le _, fun l0 hl0 => ?_⟩
  have g0 : rm n H l0 = none := fresh_back (rm_ex n H) hl0
  have w1 := w0.new hl0 (Ex.new hl0) (upd_same (o := .lst (nl [])))
  refine n_forR1 (k1 := k + 6 * most) (B := most) (ena_cons (Pa := fun z => ∃ r : Nat, z = (r : Int) ∧ r < most + 1) (en_le (en_pick (k := k + 6 * most) rfl (ev_op (ev_var rfl) (ev_n 1) rv_addN) (Nat.succ_pos _) (by omega)) (by omega)) (ena_nil (P := fun js => js = []) rfl) (fun z js ⟨r, h1, h2⟩ h3 => ⟨r, by rw [h1, h3], by omega⟩)) (by omega) w1
    (fun i σ' H' => ∃ (l : Addr) (ws : List Nat) (v4 v5 v6 : Option V), σ' = [some (.ref n), some (.int (most : Int)), some (.int (wide : Int)), some (.ref l), v4, v5, v6] ∧ rm n H l = none ∧ Wn n (k + 6 * (most - i)) (upd (rm n H) l (.lst (nl ws))) H' ∧ (∀ x ∈ ws, 1 ≤ x ∧ x ≤ wide) ∧ ws.length ≤ i)
    (fun H2 w2 => ⟨l0, [], none, none, none, rfl, g0, w2.le (by omega), fun x hx => (by cases hx), Nat.le_refl _⟩) ?_ ?_
  · intro i σ' H' hi ⟨l, ws, v4, v5, v6, hσ, hl, w, hws, hlen⟩
    subst hσ
    obtain ⟨kk, hkk⟩ : ∃ kk, kk = k + 6 * (most - (i + 1)) := ⟨_, rfl⟩
    have w := w.le (j := kk + 6) (by omega)
    have hsl : SqL K (upd (rm n H) l (.lst (nl ws))) l (nl ws) := sq_of upd_same
    -- near
    refine n_asg (k1 := kk + 5) (Pz := fun z => ∃ m : Nat, z = (m : Int) ∧ 1 ≤ m ∧ m ≤ 10000) (en_if (b := !decide (ws = [])) (et_test (ev_nilNe (ev_var rfl) hsl)) (fun hb => ?_) (fun hb => ?_)) w ?_
    · cases ws with
      | nil => simp at hb
      | cons x t =>
        have := hws x List.mem_cons_self
        exact en_weak (en_pure (ev_op (ev_var rfl) ev_c (rv_ixL hsl (nl_at (i := 0) rfl))) ⟨x, rfl, by omega, by omega⟩) (by omega)
    · exact en_I0 (Pa := fun z => z = 2) (en_pure ev_c rfl) (en_pick (m := 6) rfl ev_c (by decide) (by decide)) fun z z' h1 ⟨r, h2, h3⟩ => ⟨2 + r, by omega, by omega, by omega⟩
    rintro z H2 ⟨m, rfl, hm1, hm2⟩ w2
    -- made = [..]
    refine n_asgL (k1 := kk + 3) (P := fun js => js.length = 2) (ena_cons (Pa := fun _ => True) (Pr := fun js => js.length = 1) (en_I0 (Pa := fun _ => True) (Pb := fun _ => True) (en_pure ev_c trivial) (en_imp (en_pick (k := kk + 4) (m := wide) rfl (ev_var rfl) (by omega) (by omega)) fun _ _ => trivial) fun _ _ _ _ => trivial)
      (ena_cons (Pa := fun _ => True) (Pr := fun js => js = []) (en_I (Pa := fun z => z = (m : Int)) (Pb := fun _ => True) (en_pure (ev_var rfl) rfl) (en_I0 (Pa := fun _ => True) (Pb := fun _ => True) (en_pure ev_c trivial) (en_imp (en_pick (k := kk + 3) (m := 3) rfl ev_c (by decide) (by decide)) fun _ _ => trivial) fun _ _ _ _ => trivial) fun z z' h1 _ => ⟨.inl ⟨by omega, by omega⟩, trivial⟩) (ena_nil rfl) fun _ js _ h => by rw [h]; rfl) fun _ js _ h => by rw [List.length_cons, h]) (fun js h => by omega) w2 ?_
    intro js p H3 hjs hp hpn w3
    -- made[1] = ..
    refine n_setL (k1 := kk + 2) (j := 1) (Pz := fun _ => True) (en_I0 (Pa := fun _ => True) (Pb := fun _ => True) (en_pure (ev_op (ev_var rfl) ev_c (rv_ixL (sq_of upd_same) (il_at (i := 1) (by omega)))) trivial) (en_imp (en_pick (k := kk + 2) (m := m + 1) rfl (ev_op (ev_var rfl) (ev_n 1) rv_addN) (Nat.succ_pos _) (by omega)) fun _ _ => trivial) fun _ _ _ _ => trivial) (ev_var rfl) ev_c (by rw [il_len]; omega) w3 ?_
    intro z H4 _ w4
    rw [il_set] at w4
    have hl4 : (js.set 1 z).length = 2 := by rw [List.length_set]; exact hjs
    have ne : l ≠ p := ne_of_none (show (upd (rm n H) l (.lst (nl ws))) l = some (.lst (nl ws)) from upd_same) hp
    have hsl4 : SqL K (upd (upd (rm n H) l (.lst (nl ws))) p (.lst (il (js.set 1 z)))) l (nl ws) := sq_of (by rw [upd_ne ne]; exact upd_same)
    -- made = made + [..]
    refine n_asgCatR (k1 := kk + 1) (P := fun js => js.length = 2) (ev_var rfl) upd_same (ena_cons (Pa := fun _ => True) (Pr := fun js => js.length = 1) (en_I0 (Pa := fun _ => True) (Pb := fun _ => True) (en_pure (ev_op (ev_var rfl) (ev_cbL (el_sl (ev_var rfl) (eo_some (i := ((1 : Nat) : Int)) ev_c) (eo_some (i := ((2 : Nat) : Int)) ev_c) hsl4) fun p5 H5 hp5 e5 => by rw [nl_sum_il] at hp5; exact rc_sum (sq_of hp5)) rv_I0) trivial) (en_imp (en_pick (k := kk + 1) (m := 2) rfl ev_c (by decide) (by decide)) fun _ _ => trivial) fun _ _ _ _ => trivial)
      (ena_cons (Pa := fun _ => True) (Pr := fun js => js = []) (en_pure (ev_var rfl) trivial) (ena_nil rfl) fun _ js _ h => by rw [h]; rfl) fun _ js _ h => by rw [List.length_cons, h]) (fun js h => by rw [il_len]; omega) w4 ?_
    intro js5 p5 H5 hjs5 hp5 hp5n w5
    rw [show il (js.set 1 z) ++ il js5 = il (js.set 1 z ++ js5) by simp [il]] at w5
    have hl5 : (js.set 1 z ++ js5).length = 4 := by rw [List.length_append, hl4, hjs5]
    have ne5 : l ≠ p5 := ne_of_none (show (upd (upd (rm n H) l (.lst (nl ws))) p (.lst (il (js.set 1 z)))) l = some (.lst (nl ws)) by rw [upd_ne ne]; exact upd_same) hp5
    -- found = [..] + found
    refine n_asgCatL (k1 := kk) (P := fun js => ∃ x : Nat, js = [(x : Int)] ∧ 1 ≤ x ∧ x ≤ wide) (ev_var rfl) (p := l) (xs := nl ws) (by rw [upd_ne ne5, upd_ne ne]; exact upd_same) (ena_cons (Pa := fun z => ∃ x : Nat, z = (x : Int) ∧ 1 ≤ x ∧ x ≤ wide) (Pr := fun js => js = []) (en_max2 (Pa := fun z => z = 1) (Pb := fun z => z ≤ (wide : Int)) (en_pure ev_c rfl) (en_min2 (Pa := fun z => z = (wide : Int)) (Pb := fun _ => True) (en_pure (ev_var rfl) rfl)
      (en_ix (ev_var rfl) (sq_of upd_same) (en_I (Pa := fun z => ∃ r : Nat, z = (r : Int) ∧ r < 7) (Pb := fun z => z = 4) (en_pick (k := kk) (m := 7) rfl ev_c (by decide) (by decide)) (en_pure ev_c rfl) fun a b h1 h2 => by subst h2; exact ⟨by decide, Int.emod_nonneg _ (by decide), by rw [hl5]; exact Int.emod_lt_of_pos _ (by decide)⟩) fun _ _ => trivial) fun a b h1 _ => by subst h1; split <;> omega) fun a b h1 h2 => by subst h1; exact ⟨(if b > 1 then b else 1).toNat, by split <;> omega, by split <;> omega, by split <;> omega⟩) (ena_nil rfl) fun z js ⟨x, h1, h2⟩ h => ⟨x, by rw [h1, h], h2⟩) (fun js ⟨x, h1, _⟩ => by rw [h1, nl_len]; simp only [List.length_cons, List.length_nil]; omega) w5 ?_
    rintro js6 p6 H6 ⟨x, rfl, hx1, hx2⟩ hp6 hp6n w6
    have g1 : Ex (rm n H) (upd (upd (upd (rm n H) l (.lst (nl ws))) p (.lst (il (js.set 1 z)))) p5 (.lst (il (js.set 1 z ++ js5)))) := ((Ex.new hl).trans (Ex.new hp)).trans (Ex.new hp5)
    refine ⟨p6, x :: ws, _, _, _, rfl, fresh_back g1 hp6, ?_, ?_, by rw [List.length_cons]; omega⟩
    · rw [← hkk]
      exact w6.sub (ex_upd g1)
    · intro y hy
      rcases List.mem_cons.mp hy with e | hy
      · rw [e]; exact ⟨hx1, hx2⟩
      · exact hws y hy
  · rintro i σ' H' hi ⟨l, ws, v4, v5, v6, rfl, hl, w, hws, hlen⟩
    refine s_ret (ev_var rfl) fun H2 e2 => ?_
    have w2 := w.step e2
    have ln : l ≠ n := w2.at_ne upd_same
    refine q l ws H2 ?_ ln ?_ (w2.ex _ _ upd_same) hws (by omega) (w2.le (by omega)).nb
    · rw [← rm_ne (H := H) ln]
      exact hl
    · intro y o hy ho
      refine w2.ex y o ?_
      have hyl : y ≠ l := by
        intro z
        rw [z, ← rm_ne (H := H) ln, hl] at ho
        cases ho
      rw [upd_ne hyl, rm_ne hy]
      exact ho
end
/-! drawn lists -/
section
variable {n : Addr} {k k1 k2 : Nat} {G H : Hp} {σ : L2.St} {ta tb te tl : TE} {t : TT} {K : PySem.W.Frag} {Pa Pb Pz : Int → Prop} {P P2 : List Int → Prop} {D : Ends} {tu tz : TS} {i : Nat}
def EvNL (n : Addr) (k k' : Nat) (G : Hp) (te : TE) (σ : L2.St) (P : List Int → Prop) : Prop :=
  ∀ H, Wn n k G H → ∀ Q : VK, (∀ js p H', P js → G p = none → p ≠ n → Wn n k' (upd G p (.lst (il js))) H' → Q (.ref p) H') → te σ H Q
theorem enl_lst {ta : TA} (h : EvNA n k k1 G ta σ P) (hl : ∀ js, P js → js.length ≤ 100000) : EvNL n k k1 G (tLst ta) σ P :=
  fun H w Q q => h H w _ fun js H1 pj w1 => ⟨by rw [il_len]; exact sz_of (hl js pj), fun p hp => q js p _ pj (fresh_back w1.ex hp) (w1.fresh hp) (w1.new hp (Ex.new hp) upd_same)⟩
theorem n_asgNL (h : EvNL n k k1 G te σ P) (w : Wn n k G H) (q : ∀ js p H1, P js → G p = none → p ≠ n → Wn n k1 (upd G p (.lst (il js))) H1 → tz D (σ.set i (some (.ref p))) H1) : tSeq (tAsg te (gName i)) tz D σ H := h H w _ q
/-- [..][a drawn place] -/
theorem en_ixD (ha : EvNL n k k1 G ta σ P) (hb : ∀ js p, P js → G p = none → EvN n k1 k2 (upd G p (.lst (il js))) tb σ fun i => 0 ≤ i ∧ i < (js.length : Int)) (h : ∀ js, P js → ∀ j ∈ js, Pz j) : EvN n k k2 G (tOp (rIxL K) ta tb) σ Pz := by
  intro H w Q q
  refine ha H w _ fun js p H1 pj hp ne w1 => ?_
  refine hb js p pj hp H1 w1 _ fun i H2 hi w2 => ?_
  have e : i = ((i.toNat : Nat) : Int) := by omega
  have hl : i.toNat < js.length := by omega
  refine ⟨p, il js, i, .int (js.getD i.toNat 0), rfl, rfl, sq_of (w2.ex _ _ upd_same), by rw [e]; exact il_at hl, q _ H2 (h _ pj _ ?_) (w2.drop hp)⟩
  simp [List.getD, hl]
/-- [..] + xs, the display drawn, xs a new list -/
theorem enl_cat {xs : List Int} (ha : EvNL n k k1 G ta σ P) (hb : EvL tb σ G (il xs)) (hl : ∀ js, P js → js.length + xs.length ≤ 100000) (h : ∀ js, P js → P2 (js ++ xs)) : EvNL n k k1 G (tOp rCat ta tb) σ P2 := by
  intro H w Q q
  refine ha H w _ fun js p H1 pj hp ne w1 => ?_
  have w1' := w1.drop hp
  refine hb H1 w1'.ex _ fun p2 H2 hp2 e2 h2 => ?_
  refine ⟨p, p2, il js, il xs, rfl, rfl, (w1.step e2).ex _ _ upd_same, h2, by rw [il_len, il_len]; exact sz_of (hl js pj), fun p3 hp3 => ?_⟩
  have w2 := (w1.step e2).drop hp
  have e : il js ++ il xs = il (js ++ xs) := by simp [il]
  rw [e]
  exact q (js ++ xs) p3 _ (h js pj) (fresh_back w2.ex hp3) (w2.fresh hp3) (w2.new hp3 (Ex.new hp3) upd_same)
/-- [a drawn number for x in range(m)] -/
theorem enl_lcR1 {ta : TA} {j m : Nat} {vs : List Nat} (h : EvA ta σ G [.int (m : Int)]) (hm : m ≤ 1000) (hw : ∀ x, wipe ((wipe σ vs).set j (some x)) vs = wipe σ vs)
    (he : ∀ (i kk : Nat) (G' : Hp), i < m → Ex G G' → EvN n (kk + 1) kk G' te ((wipe σ vs).set j (some (.int (i : Int)))) Pz) :
    EvNL n (k + m) k G (tLc (iRng1 ta) (gName j) tYes te vs) σ fun js => js.length = m ∧ ∀ x ∈ js, Pz x := by
  intro H w Q q
  refine h H w.ex _ fun H1 e1 => ⟨(m : Int), rfl, by omega, by omega, fun Dl hD => ?_⟩
  have w1 := w.step e1
  have hG := fresh_back w1.ex hD
  refine lc_range (lo := 0) (n := ((m : Int)).toNat) (fun i H' => ∃ js : List Int, js.length = i ∧ (∀ x ∈ js, Pz x) ∧ Wn n (k + (m - i)) (upd G Dl (.lst (il js))) H') ⟨[], rfl, fun x hx => (by cases hx), (w1.new hD (Ex.new hD) (upd_same (o := .lst (il [])))).le (by omega)⟩ ?_ ?_
  · rintro i H' hi ⟨js, hj, hp, w2⟩
    have e0 : (0 : Int) + (i : Int) = (i : Int) := Int.zero_add _
    show wipe ((wipe σ vs).set j (some (.int ((0 : Int) + (i : Int))))) vs = wipe σ vs ∧ tYes ((wipe σ vs).set j (some (.int ((0 : Int) + (i : Int))))) H' fun b H3 => if b = true then te ((wipe σ vs).set j (some (.int ((0 : Int) + (i : Int))))) H3 fun y H4 => ∃ acc, H4 Dl = some (.lst acc) ∧ acc.length < sizeLine ∧ ∃ js : List Int, js.length = i + 1 ∧ (∀ x ∈ js, Pz x) ∧ Wn n (k + (m - (i + 1))) (upd G Dl (.lst (il js))) (upd H4 Dl (.lst (acc ++ [y]))) else ∃ js : List Int, js.length = i + 1 ∧ (∀ x ∈ js, Pz x) ∧ Wn n (k + (m - (i + 1))) (upd G Dl (.lst (il js))) H3
    rw [e0]
    refine ⟨hw _, ?_⟩
    show te _ H' _
    refine he i (k + (m - (i + 1))) _ (by omega) (Ex.new hG) H' (w2.le (by omega)) _ fun z H4 pz w4 => ?_
    refine ⟨il js, w4.ex _ _ upd_same, by rw [il_len]; exact sz_lt (by omega), js ++ [z], by simp [hj], fun x hx => ?_, ?_⟩
    · rcases List.mem_append.mp hx with q | q
      · exact hp x q
      · rw [List.mem_singleton.mp q]; exact pz
    · have e : il js ++ [V.int z] = il (js ++ [z]) := by simp [il]
      rw [e]
      exact w4.write
  · rintro H' ⟨js, hj, hp, w2⟩
    exact q js Dl H' ⟨by omega, hp⟩ hG (w2.at_ne upd_same) (w2.le (by omega))
/-- for x in a drawn list -/
theorem n_forNL {j : Nat} (h : EvNL n k k1 G tl σ P) (w : Wn n k G H) (Pv : Addr → List Int → Nat → L2.St → Hp → Prop) (h0 : ∀ js p H1, P js → G p = none → p ≠ n → Wn n k1 (upd G p (.lst (il js))) H1 → Pv p js 0 σ H1)
    (hl : ∀ js p i σ' H', Pv p js i σ' H' → SqL K H' p (il js)) (hs : ∀ js p i z σ' H', P js → js[i]? = some z → Pv p js i σ' H' → tu { D with nx := Pv p js (i + 1), ct := Pv p js (i + 1), bk := tz D } (σ'.set j (some (.int z))) H')
    (hd : ∀ js p σ' H', P js → Pv p js js.length σ' H' → tz D σ' H') : tSeq (tFor (iList K tl) (gName j) tu) tz D σ H :=
  h H w _ fun js p H1 pj hp ne w1 => ⟨p, rfl, ⟨il js, sq_of (w1.ex _ _ upd_same)⟩, for_list (Pv p js) (h0 js p H1 pj hp ne w1) (fun i σ' H' _ pv => hl js p i σ' H' pv) (fun i x σ' H' hi pv => by
    obtain ⟨z, hz, rfl⟩ := il_get' hi
    exact hs js p i z σ' H' pj hz pv) (fun σ' H' pv => hd js p σ' H' pj (by rw [il_len] at pv; exact pv))⟩
/-- plan = _law_plan(numbers, most, wide) -/
theorem n_plan {E : XK} {x most wide : Nat} {tb tc : TE} (hv : σ[x]? = some (some (.ref n))) (hb : Ev tb σ G (.int (most : Int))) (hc : Ev tc σ G (.int (wide : Int))) (hm : most ≤ 1000) (hw1 : 1 ≤ wide) (hw2 : wide ≤ 10000) (w : Wn n (k + 1 + 6 * most) G H)
    (q : ∀ p ws H1, G p = none → p ≠ n → (∀ x ∈ ws, 1 ≤ x ∧ x ≤ wide) → ws.length ≤ most → Wn n k (upd G p (.lst (nl ws))) H1 → tz D (σ.set i (some (.ref p))) H1) :
    tSeq (tAsg (tCall (sp__law_plan K) [] E (tCons (tVar x) (tCons tb (tCons tc tNil)))) (gName i)) tz D σ H := by
  refine ⟨_, hv, ?_⟩
  refine hb H w.ex _ fun H1 e1 => hc H1 (w.ex.trans e1) _ fun H2 e2 => ?_
  have w2 := (w.step e1).step e2
  refine ⟨n, most, wide, k, rfl, hm, hw1, hw2, w2.nb, fun p ws H3 hp ne eb h3 hws hl nb => ?_⟩
  have w3 := w2.exB eb nb
  have gp := fresh_back w2.ex hp
  refine q p ws H3 gp ne hws hl ⟨by rw [upd_ne (Ne.symm ne)]; exact w3.off, fun y o hy => ?_, nb⟩
  by_cases z : y = p
  · subst z
    rw [upd_same] at hy
    cases hy
    exact h3
  · rw [upd_ne z] at hy
    exact w3.ex y o hy
end

/-! ### what repr shows is short -/
structure Sh (n m : Nat) (d : PyData) : Prop where
  s : d.showable = true
  l : d.leavesShort 150 = true
  p : d.depth ≤ n
  q : d.weight ≤ m
theorem Sh.showy {n m : Nat} {d : PyData} (h : Sh n m d) (hn : n ≤ 60) (hm : m ≤ 100000) : Showy d := by
  refine ⟨h.s, Nat.le_trans h.p hn, ?_⟩
  have h1 := PyData.shown_le 150 (by decide) d h.l
  have h2 : (150 + 2) * d.weight ≤ (150 + 2) * 100000 := Nat.mul_le_mul_left _ (Nat.le_trans h.q hm)
  rw [sizeLine_eq]
  omega
theorem Sh.none : Sh 0 0 .none := ⟨by simp [PyData.showable], by simp [PyData.leavesShort], by simp [PyData.depth], by simp [PyData.weight]⟩
theorem Sh.bool (b : Bool) : Sh 0 0 (.bool b) := ⟨by simp [PyData.showable], by simp [PyData.leavesShort], by simp [PyData.depth], by simp [PyData.weight]⟩
theorem Sh.int {i : Int} (h : i.natAbs < 2 ^ 140) : Sh 0 140 (.int i) := by
  have hl : i.natAbs.log2 < 140 := PySem.Flt.log2_lt_of (by decide) h
  refine ⟨by simp only [PyData.showable, decide_eq_true_eq]; omega, ?_, by simp [PyData.depth], ?_⟩
  · have := int_text_length_le (a := i) (k := 140) (by decide) hl
    simp only [PyData.leavesShort, PyData.shown, decide_eq_true_eq]
    have e := PySem.ofString_length (toString i)
    exact decide_eq_true (show (Str.ofString (toString i)).length ≤ 150 by omega)
  · simp only [PyData.weight]
    split <;> omega
theorem sh_all {n m : Nat} : ∀ {ds : List PyData}, (∀ d ∈ ds, Sh n m d) → PyData.showableAll ds = true ∧ PyData.leavesShortAll 150 ds = true ∧ PyData.depthAll ds ≤ n ∧ PyData.weightAll ds ≤ ds.length * (m + 1)
  | [], _ => ⟨by simp [PyData.showableAll], by simp [PyData.leavesShortAll], by simp [PyData.depthAll], by simp [PyData.weightAll]⟩
  | d :: ds, h => by
    have h1 := h d List.mem_cons_self
    obtain ⟨a, b, c, e⟩ := sh_all (ds := ds) fun x hx => h x (List.mem_cons_of_mem _ hx)
    have p1 := h1.p
    have q1 := h1.q
    refine ⟨by simp [PyData.showableAll, h1.s, a], by simp [PyData.leavesShortAll, h1.l, b], ?_, ?_⟩
    · simp only [PyData.depthAll]
      exact Nat.max_le.mpr ⟨p1, c⟩
    · simp only [PyData.weightAll, List.length_cons, Nat.succ_mul]
      omega
theorem Sh.list {n m : Nat} {ds : List PyData} (h : ∀ d ∈ ds, Sh n m d) : Sh (n + 1) (ds.length * (m + 1)) (.list ds) := by
  obtain ⟨a, b, c, e⟩ := sh_all h
  exact ⟨by simp only [PyData.showable]; exact a, by simp only [PyData.leavesShort]; exact b, by simp only [PyData.depth]; omega, by simp only [PyData.weight]; exact e⟩
theorem Sh.tuple {n m : Nat} {ds : List PyData} (h : ∀ d ∈ ds, Sh n m d) : Sh (n + 1) (ds.length * (m + 1)) (.tuple ds) := by
  obtain ⟨a, b, c, e⟩ := sh_all h
  exact ⟨by simp only [PyData.showable]; exact a, by simp only [PyData.leavesShort]; exact b, by simp only [PyData.depth]; omega, by simp only [PyData.weight]; exact e⟩
theorem Sh.mono {n m n' m' : Nat} {d : PyData} (h : Sh n m d) (hn : n ≤ n') (hm : m ≤ m') : Sh n' m' d := ⟨h.s, h.l, Nat.le_trans h.p hn, Nat.le_trans h.q hm⟩
theorem sh_nat {x : Nat} (h : x ≤ 10 ^ 41) : Sh 0 140 (.int (x : Int)) := Sh.int (by
  rw [Int.natAbs_natCast]
  exact Nat.lt_of_le_of_lt h (by decide))
theorem sh_dN {ws : List Nat} (h : ∀ x ∈ ws, x ≤ 10 ^ 41) (hl : ws.length ≤ 700) : Showy (dN ws) := by
  refine (Sh.list (n := 0) (m := 140) (ds := ws.map fun (n : Nat) => PyData.int (n : Int)) fun d hd => ?_).showy (by decide) ?_
  · obtain ⟨x, hx, rfl⟩ := List.mem_map.mp hd
    exact sh_nat (h x hx)
  · rw [List.length_map]
    omega

/-! ### the law k14 -/
section
variable {P : Program} {w : World} {K : PySem.W.Frag} {mg : Str → Option Value} {base : Heap}
def dO : Option Nat → PyData
  | none => .none
  | some n => .int (n : Int)
theorem dp_vO {H : Hp} (o : Option Nat) : Dp K H (vO o) (dO o) := by
  cases o with
  | none => exact .non
  | some n => exact .int _
theorem sh_dO {o : Option Nat} (h : ∀ x, o = some x → x ≤ 10 ^ 41) : Sh 0 140 (dO o) := by
  cases o with
  | none => exact Sh.none.mono (Nat.le_refl _) (by omega)
  | some x => exact sh_nat (h x rfl)
theorem dpAll2 {H : Hp} {x y : V} {d e : PyData} (h1 : Dp K H x d) (h2 : Dp K H y e) : DpAll K H [x, y] [d, e] := .cons h1 (.cons h2 .nil)
theorem sp_law_col {H : Hp} {a : Addr} {ws : List Nat} {s : Nat} (hs : SqL K H a (nl ws)) (hw : Wd ws) (hl : ws.length ≤ 1000) (h : s ≤ 10 ^ 30) : SpV (sp_column K) [.ref a, .int (s : Int)] H (.int (col ws s : Nat)) :=
  spv_retV fun _ e _ _ k => ⟨_, _, _, rfl, ex_l e hs, hw, hl, h, k⟩
def sp__law_overlap (K : PySem.W.Frag) : Sp := fun vs H Q _ => ∃ (a : Addr) (ws : List Nat) (s : Nat), vs = [.ref a, .int (s : Int)] ∧ SqL K H a (nl ws) ∧ Wd ws ∧ ws.length ≤ 1000 ∧ (∀ x ∈ ws, s + x ≤ 10 ^ 30) ∧ RetV (vO (lawOverlapO ws s)) H Q
theorem ok__law_overlap (T : Env K mg) : Callee P w K mg base CX0 6 "_law_overlap" ["plan", "lag"] [] (sp__law_overlap K) := by
  have C_column := ok_column (P := P) (w := w) (base := base) T
  refine callee_of T.g__law_overlap T.d__law_overlap sc__law_overlap (fun _ _ _ _ _ _ us hl => match us, hl with | [_, _], _ => rfl) (fun vs H Q E h => by first | (obtain ⟨rfl, _⟩ := h; rfl) | (obtain ⟨_, rfl, _⟩ := h; rfl) | (obtain ⟨_, _, rfl, _⟩ := h; rfl) | (obtain ⟨_, _, _, rfl, _⟩ := h; rfl) | (obtain ⟨_, _, _, _, rfl, _⟩ := h; rfl) | (obtain ⟨_, _, _, _, _, rfl, _⟩ := h; rfl) | (obtain ⟨_, _, _, _, _, _, rfl, _⟩ := h; rfl) | (obtain ⟨_, _, _, _, _, _, _, rfl, _⟩ := h; rfl) | (obtain ⟨_, _, _, _, _, _, _, _, rfl, _⟩ := h; rfl)) ?_
  intro cdv f A outer s H vs Q E hr h
  refine ⟨_, (pss_cons (ps_if (pt_cmpR (op_eqD hr.units) (pv 0) (pe_lst pa_nil) (nomark _)) (pss_one (ps_ret (pe_ifExp (pt_cmpR op_eq (pv 1) pe_int (nomark _)) pe_non pe_int))) pss_nil)
      (pss_cons (ps_for PassesOwn.never rfl (pi_range1 (by rfl) T.n_range (pa_cons (pe_ix ix_list (pv 0) pe_int (fun _ _ => rfl)) pa_nil)) (pg_name (i := 2) sc__law_overlap.nd rfl (Or.inl rfl))
      (pss_one (ps_if (pt_cmpR op_ne (Hw.pe_cc C_column (hr.mono (by decide)) (by rfl) pass0 (pa_cons (pv 0) (pa_cons (pe_op op_add (pv 1) (pv 2)) pa_nil))) (Hw.pe_cc C_column (hr.mono (by decide)) (by rfl) pass0 (pa_cons (pv 0) (pa_cons (pv 2) pa_nil))) (nomark _)) (pss_one (ps_ret (pv 2))) pss_nil)))
      (pss_one (ps_ret pe_non)))), ?_⟩
  obtain ⟨a, ws, s, rfl, hs, hw, hl, hp, q⟩ := h
  refine q_when (b := decide (ws = [])) (et_test (ev_nilEq (ev_var rfl) hs)) (fun hb H1 e1 => ?_) (fun hb H1 e1 => ?_)
  · have hn : ws = [] := of_decide_eq_true hb
    subst hn
    refine s_ret (v := vO (lawOverlapO [] s)) (ev_if (b := decide (V.int (s : Int) = V.int 0)) (et_test (ev_op (ev_var rfl) ev_c (rv_eq rfl))) (fun h0 => ?_) fun h0 => ?_) fun H3 e3 => q H3 (e1.trans e3)
    · have : s = 0 := by
        have := of_decide_eq_true h0
        injection this with this
        omega
      unfold lawOverlapO
      rw [if_pos this]
      exact ev_c
    · have : ¬ s = 0 := by
        have := of_decide_eq_false h0
        intro z
        apply this
        rw [z]
        rfl
      unfold lawOverlapO
      rw [if_neg this]
      exact ev_c
  · cases ws with
    | nil => simp at hb
    | cons W t =>
      have hW := hw W List.mem_cons_self
      have hpW := hp W List.mem_cons_self
      have ho : lawOverlapO (W :: t) s = firstN (differs (W :: t) s) W := rfl
      refine q_forR1 (n := (W : Int)) (ea_cons (ev_op (ev_var rfl) ev_c (rv_ixL (ex_l e1 hs) (nl_at (i := 0) rfl))) ea_nil) (by omega) (fun i σ' H' => ∃ v, σ' = [some (.ref a), some (.int (s : Int)), v] ∧ Ex H H' ∧ ∀ j, j < i → differs (W :: t) s j = false)
        (fun H3 e3 => ⟨none, rfl, e1.trans e3, fun j hj => by omega⟩) ?_ ?_
      · rintro i σ' H' hi ⟨v, rfl, e, hj⟩
        refine s_when (b := !decide (V.int (col (W :: t) (s + i) : Nat) = V.int (col (W :: t) i : Nat))) (et_test (ev_op (ev_call (ea_cons (ev_var rfl) (ea_cons (ev_op (ev_var rfl) (ev_var rfl) rv_addN) ea_nil)) (sp_law_col (ex_l e hs) hw hl (by omega))) (ev_call (ea_cons (ev_var rfl) (ea_cons (ev_var rfl) ea_nil)) (sp_law_col (ex_l e hs) hw hl (by omega))) (rv_ne rfl))) (fun hb H4 e4 => ?_) (fun hb H4 e4 => ?_)
        · rw [dec_ne] at hb
          have hf : lawOverlapO (W :: t) s = some i := by rw [ho]; exact firstN_some (by omega) hb hj
          rw [hf] at q
          exact s_ret (ev_var rfl) fun H5 e5 => q H5 ((e.trans e4).trans e5)
        · rw [dec_ne] at hb
          refine ⟨some (.int (i : Int)), rfl, e.trans e4, fun j hj2 => ?_⟩
          by_cases z : j = i
          · subst z
            exact hb
          · exact hj j (by omega)
      · rintro σ' H' ⟨v, rfl, e, hj⟩
        have hf : lawOverlapO (W :: t) s = none := by rw [ho]; exact firstN_none.mpr fun i hi => hj i (by omega)
        rw [hf] at q
        exact s_ret ev_c fun H5 e5 => q H5 (e.trans e5)
/-- the slices that the law compares -/
theorem short_same {ws : List Nat} {lag far : Nat} (h : ∀ i, i < far → col ws (lag + i) = col ws i) (hb : lag + far ≤ 1000) : ((cols ws 1000).take (lag + far)).drop lag = (cols ws 1000).take far := by
  apply List.ext_getElem?
  intro i
  rw [List.getElem?_drop, List.getElem?_take, List.getElem?_take]
  by_cases c : i < far
  · rw [if_pos (by omega), if_pos c, cols_get (by omega), cols_get (by omega), h i c]
  · rw [if_neg (by omega), if_neg c]
theorem dec_vstr (x : Str) : (!decide (V.str x = V.str x)) = false := by simp
theorem lawO_le {ws : List Nat} {s B x : Nat} (hB : ∀ y ∈ ws, y ≤ B) (h : lawOverlapO ws s = some x) : x ≤ B := (lawOverlap_some h).2.2 B hB
theorem Wd.of {ws : List Nat} {B : Nat} (h : ∀ x ∈ ws, 1 ≤ x ∧ x ≤ B) (hB : B ≤ 10000) : Wd ws := fun x hx => ⟨(h x hx).1, Nat.le_trans (h x hx).2 hB⟩
/-- repr(overlap(plan, lag)) and repr(_law_overlap(plan, lag)) -/
theorem ev_reprO {σ : L2.St} {H : Hp} {E : XK} {i j : Nat} {a : Addr} {ws : List Nat} {s : Nat} (hi : σ[i]? = some (some (.ref a))) (hj : σ[j]? = some (some (.int (s : Int)))) (hs : SqL K H a (nl ws)) (hw : Wd ws) (hl : ws.length ≤ 1000) (h : s ≤ 10 ^ 30) :
    Ev (tCB (rRepr K) (tCons (tCall (sp_overlap K) [] E (tCons (tVar i) (tCons (tVar j) tNil))) tNil)) σ H (.str (dO (lawOverlapO ws s)).shown) := by
  refine ev_cb (ea_cons (ev_call (ea_cons (ev_var hi) (ea_cons (ev_var hj) ea_nil)) (spv_retV fun _ e _ _ k => ⟨_, _, _, rfl, ex_l e hs, hw, hl, h, k⟩)) ea_nil) ?_
  rw [overlap_law hw.pos]
  exact rc_repr (dp_vO _) ((sh_dO fun x hx => by have := lawO_le (B := 10000) (fun y hy => (hw y hy).2) hx; omega).showy (by decide) (by decide))
theorem ev_reprL {σ : L2.St} {H : Hp} {E : XK} {i j : Nat} {a : Addr} {ws : List Nat} {s : Nat} (hi : σ[i]? = some (some (.ref a))) (hj : σ[j]? = some (some (.int (s : Int)))) (hs : SqL K H a (nl ws)) (hw : Wd ws) (hl : ws.length ≤ 1000) (h : ∀ x ∈ ws, s + x ≤ 10 ^ 30) :
    Ev (tCB (rRepr K) (tCons (tCall (sp__law_overlap K) [] E (tCons (tVar i) (tCons (tVar j) tNil))) tNil)) σ H (.str (dO (lawOverlapO ws s)).shown) :=
  ev_cb (ea_cons (ev_call (ea_cons (ev_var hi) (ea_cons (ev_var hj) ea_nil)) (spv_retV fun _ e _ _ k => ⟨_, _, _, rfl, ex_l e hs, hw, hl, h, k⟩)) ea_nil)
    (rc_repr (dp_vO _) ((sh_dO fun x hx => by have := lawO_le (B := 10000) (fun y hy => (hw y hy).2) hx; omega).showy (by decide) (by decide)))
theorem et_reprNe {σ : L2.St} {H : Hp} {ta tb : TE} {x : Str} (ha : Ev ta σ H (.str x)) (hb : Ev tb σ H (.str x)) : EvT (tTest (tOp rNe ta tb)) σ H false := by
  refine et_is (et_test (ev_op ha hb (rv_ne rfl))) ?_
  exact dec_vstr x
theorem sum_take1 (ws : List Nat) {B : Nat} (h : ∀ x ∈ ws, x ≤ B) : ∃ S : Nat, ((ws.take 1).map fun (n : Nat) => (n : Int)).sum = (S : Int) ∧ S ≤ B := by
  cases ws with
  | nil => exact ⟨0, rfl, Nat.zero_le _⟩
  | cons x t => exact ⟨x, by simp, h x List.mem_cons_self⟩
theorem consP {Q : Int → Prop} {m : Nat} (z : Int) (js : List Int) (hz : Q z) (hj : js.length = m ∧ ∀ z ∈ js, Q z) : (z :: js).length = m + 1 ∧ ∀ x ∈ z :: js, Q x :=
  ⟨by rw [List.length_cons, hj.1], fun x hx => by
    rcases List.mem_cons.mp hx with e | hx
    · rw [e]; exact hz
    · exact hj.2 x hx⟩
theorem cons0 {Q : Int → Prop} (z : Int) (js : List Int) (hz : Q z) (hj : js = []) : (z :: js).length = 1 ∧ ∀ x ∈ z :: js, Q x := by
  subst hj
  exact consP z [] hz ⟨rfl, fun x hx => by cases hx⟩
theorem el_takeN {σ : L2.St} {H : Hp} {te : TE} {a : Addr} {ws : List Nat} (n : Nat) (h : Ev te σ H (.ref a)) (hs : SqL K H a (nl ws)) : EvL (tSl (rSlL K) te tNoPart (tPart (tC (.int (n : Int))))) σ H (il ((ws.take n).map fun (n : Nat) => (n : Int))) := by
  have := el_sl (K := K) h eo_none (eo_some (te := tC (.int (n : Int))) (i := (n : Int)) ev_c) hs
  rw [cutV_0n, nl_take, nl_il (ws.take n)] at this
  exact this
def sp_law (K : PySem.W.Frag) : Sp := fun vs H Q _ => ∃ (a : Addr) (ns : List Int), vs = [.ref a] ∧ SqL K H a (il ns) ∧ ns.length ≤ 63 ∧ ∀ H', Q (.bl true) H'
theorem ok_law (T : Env K mg) {fd : FuncData} (F : FunD K "law" "law" (defArgs s_law) (defBody s_law) (defScope s_law) [] [] (He.ga K "law") fd) : FnG P w K mg base CX0 7 (He.ga K "law") fd ["script"] (sp_law K) := by
  have C__law_numbers := ok__law_numbers (P := P) (w := w) (base := base) T
  have C__law_overlap := ok__law_overlap (P := P) (w := w) (base := base) T
  have C__law_pick := ok__law_pick (P := P) (w := w) (base := base) T
  have C__law_plan := ok__law_plan (P := P) (w := w) (base := base) T
  have C_columns := ok_columns (P := P) (w := w) (base := base) T
  have C_least_period := ok_least_period (P := P) (w := w) (base := base) T
  have C_overlap := ok_overlap (P := P) (w := w) (base := base) T
  have C_overlap_kw := ok_overlap_kw (P := P) (w := w) (base := base) T
  refine lawfn_of F sc_law (fun vs H Q E h => by first | (obtain ⟨rfl, _⟩ := h; rfl) | (obtain ⟨_, rfl, _⟩ := h; rfl) | (obtain ⟨_, _, rfl, _⟩ := h; rfl) | (obtain ⟨_, _, _, rfl, _⟩ := h; rfl) | (obtain ⟨_, _, _, _, rfl, _⟩ := h; rfl) | (obtain ⟨_, _, _, _, _, rfl, _⟩ := h; rfl) | (obtain ⟨_, _, _, _, _, _, rfl, _⟩ := h; rfl) | (obtain ⟨_, _, _, _, _, _, _, rfl, _⟩ := h; rfl) | (obtain ⟨_, _, _, _, _, _, _, _, rfl, _⟩ := h; rfl)) ?_
  intro cdv f A outer s H vs Q E hga hr h
  refine ⟨_, (pss_cons (ps_for PassesOwn.never rfl (pi_range1 (by rfl) T.n_range (pa_cons (pe_callB (call_max2 rfl) (by rfl) T.n_max (by decide +kernel) (pa_cons pe_int (pa_cons (pe_callB (call_min2 rfl) (by rfl) T.n_min (by decide +kernel) (pa_cons pe_int (pa_cons (pe_callB call_len_seq (by rfl) T.n_len PySem.boot_len (pa_cons (pv 0) pa_nil)) pa_nil))) pa_nil))) pa_nil)) (pg_name (i := 1) sc_law.nd rfl (Or.inl rfl))
      (pss_cons (ps_set (i := 2) sc_law.nd rfl (Or.inr rfl) (Hw.pe_cc C__law_numbers (hr.mono (by decide)) (by rfl) pass0 (pa_cons (pv 0) (pa_cons (pv 1) pa_nil))))
      (pss_one (ps_for PassesOwn.never rfl (pi_range1 (by rfl) T.n_range (pa_cons pe_int pa_nil)) (pg_name (i := 3) sc_law.nd rfl (Or.inl rfl))
      (pss_cons (ps_set (i := 4) sc_law.nd rfl (Or.inl rfl) (Hw.pe_cc C__law_plan (hr.mono (by decide)) (by rfl) pass0 (pa_cons (pv 2) (pa_cons pe_int (pa_cons pe_int pa_nil)))))
      (pss_cons (ps_set (i := 5) sc_law.nd rfl (Or.inl rfl) (pe_callB (Hw.call_reprD hga hr) (by rfl) T.n_repr (by decide +kernel) (pa_cons (pv 4) pa_nil)))
      (pss_cons (ps_set (i := 6) sc_law.nd rfl (Or.inl rfl) (Hw.pe_cc C_columns (hr.mono (by decide)) (by rfl) pass0 (pa_cons (pv 4) (pa_cons pe_int pa_nil))))
      (pss_cons (ps_for PassesOwn.never rfl (pi_range1 (by rfl) T.n_range (pa_cons pe_int pa_nil)) (pg_name (i := 7) sc_law.nd rfl (Or.inl rfl))
      (pss_cons (ps_set (i := 8) sc_law.nd rfl (Or.inl rfl) (Hw.pe_cc C__law_overlap (hr.mono (by decide)) (by rfl) pass0 (pa_cons (pv 4) (pa_cons (pv 7) pa_nil))))
      (pss_cons (ps_if (pt_cmpR op_ne (pe_callB (Hw.call_reprD hga hr) (by rfl) T.n_repr (by decide +kernel) (pa_cons (pe_lst (pa_cons (Hw.pe_cc C_overlap (hr.mono (by decide)) (by rfl) pass0 (pa_cons (pv 4) (pa_cons (pv 7) pa_nil))) (pa_cons (Hw.pe_ck C_overlap_kw (hr.mono (by decide)) (by rfl) pass0 (pk_cons (pv 7) (pk_cons (pv 4) pk_nil))) pa_nil))) pa_nil)) (pe_callB (Hw.call_reprD hga hr) (by rfl) T.n_repr (by decide +kernel) (pa_cons (pe_lst (pa_cons (pv 8) (pa_cons (pv 8) pa_nil))) pa_nil)) (nomark _)) (pss_one (ps_ret pe_bl)) pss_nil)
      (pss_cons (ps_set (i := 9) sc_law.nd rfl (Or.inl rfl) (pe_ifExp (pt_cmpR op_isN (pv 8) pe_non (nomark _)) pe_int (pv 8)))
      (pss_one (ps_if (PW.pt (pw_or (pt_cmpR (op_neD hr.units) (pe_slice sl_list (pv 6) (po_some (pv 7)) (po_some (pe_op op_add (pv 7) (pv 9)))) (pe_slice sl_list (pv 6) po_none (po_some (pv 9))) (nomark _)) (pw_or1 (PW.pt (pw_and (pt_cmpR op_notN (pv 8) pe_non (nomark _)) (pw_and1 (pt_cmpR op_eq (pe_ix ix_list (pv 6) (pe_op op_add (pv 7) (pv 8)) (fun _ _ => rfl)) (pe_ix ix_list (pv 6) (pv 8) (fun _ _ => rfl)) (nomark _)))))))) (pss_one (ps_ret pe_bl)) pss_nil))))))
      (pss_cons (ps_for PassesOwn.never rfl (pi_list (pe_lc (own := [("step", 12)]) (g := gName 12) rfl sc_law.nd (pi_range1 (by rfl) T.n_range (pa_cons pe_int pa_nil)) (blkOk_by (own := [("step", 12)]) (N := ["script", "k", "numbers", "turn", "plan", "kept", "short", "lag", "due", "far", "near", "great", "step"]) (sc := (defScope s_law)) (by decide +kernel)) (fun _ _ _ _ _ => (pg_name (i := 12) sc_law.nd rfl (Or.inl rfl))) (fun _ _ _ _ _ => pts_nil) (fun _ _ _ _ _ => (Hw.pe_cc C__law_pick (hr.mono (by decide)) (by rfl) pass0 (pa_cons (pv 2) (pa_cons (pe_op op_sub (pe_op Hw.op_powW pe_int pe_int) pe_int) pa_nil)))))) (pg_name (i := 7) sc_law.nd rfl (Or.inl rfl))
      (pss_one (ps_if (PW.pt (pw_or (pt_cmpR op_ne (pe_callB (Hw.call_reprD hga hr) (by rfl) T.n_repr (by decide +kernel) (pa_cons (Hw.pe_cc C_overlap (hr.mono (by decide)) (by rfl) pass0 (pa_cons (pv 4) (pa_cons (pv 7) pa_nil))) pa_nil)) (pe_callB (Hw.call_reprD hga hr) (by rfl) T.n_repr (by decide +kernel) (pa_cons (Hw.pe_cc C__law_overlap (hr.mono (by decide)) (by rfl) pass0 (pa_cons (pv 4) (pa_cons (pv 7) pa_nil))) pa_nil)) (nomark _)) (pw_or1 (pt_cmpR op_ne (pe_callB (Hw.call_reprD hga hr) (by rfl) T.n_repr (by decide +kernel) (pa_cons (pv 4) pa_nil)) (pv 5) (nomark _))))) (pss_one (ps_ret pe_bl)) pss_nil)))
      (pss_cut (ps_if (pt_cmpR op_eq (pv 3) pe_int (nomark _)) (pss_cons (ps_set (i := 10) sc_law.nd rfl (Or.inl rfl) (pe_op op_cat (pe_lst (pa_cons (pe_op op_sub (pe_op Hw.op_powW pe_int pe_int) (Hw.pe_cc C__law_pick (hr.mono (by decide)) (by rfl) pass0 (pa_cons (pv 2) (pa_cons pe_int pa_nil)))) (pa_cons (pe_op op_sub pe_int (Hw.pe_cc C__law_pick (hr.mono (by decide)) (by rfl) pass0 (pa_cons (pv 2) (pa_cons pe_int pa_nil)))) pa_nil))) (pe_slice sl_list (pv 4) po_none (po_some pe_int))))
      (pss_cons (ps_set (i := 7) sc_law.nd rfl (Or.inl rfl) (pe_ix ix_list (pe_lst (pa_cons (pe_ix ix_list (pv 10) pe_int (fun _ _ => rfl)) (pa_cons (pe_op op_sub (pe_ix ix_list (pv 10) pe_int (fun _ _ => rfl)) (pe_ix ix_list (pv 10) pe_int (fun _ _ => rfl))) (pa_cons (Hw.pe_cc C__law_pick (hr.mono (by decide)) (by rfl) pass0 (pa_cons (pv 2) (pa_cons pe_int pa_nil))) (pa_cons (pe_op op_mul (pe_ix ix_list (pv 10) pe_int (fun _ _ => rfl)) pe_int) pa_nil))))) (Hw.pe_cc C__law_pick (hr.mono (by decide)) (by rfl) pass0 (pa_cons (pv 2) (pa_cons pe_int pa_nil))) (fun _ _ => rfl)))
      (pss_one (ps_if (pt_cmpR op_ne (pe_callB (Hw.call_reprD hga hr) (by rfl) T.n_repr (by decide +kernel) (pa_cons (Hw.pe_cc C_overlap (hr.mono (by decide)) (by rfl) pass0 (pa_cons (pv 10) (pa_cons (pv 7) pa_nil))) pa_nil)) (pe_callB (Hw.call_reprD hga hr) (by rfl) T.n_repr (by decide +kernel) (pa_cons (Hw.pe_cc C__law_overlap (hr.mono (by decide)) (by rfl) pass0 (pa_cons (pv 10) (pa_cons (pv 7) pa_nil))) pa_nil)) (nomark _)) (pss_one (ps_ret pe_bl)) pss_nil)))) pss_nil)
      (pss_cons (ps_set (i := 11) sc_law.nd rfl (Or.inl rfl) (Hw.pe_cc C__law_plan (hr.mono (by decide)) (by rfl) pass0 (pa_cons (pv 2) (pa_cons pe_int (pa_cons pe_int pa_nil)))))
      (pss_cons (ps_set (i := 7) sc_law.nd rfl (Or.inl rfl) (pe_ix ix_list (pe_lst (pa_cons (Hw.pe_cc C__law_pick (hr.mono (by decide)) (by rfl) pass0 (pa_cons (pv 2) (pa_cons pe_int pa_nil))) (pa_cons (pe_op op_mul (pe_callB (cr_sum rfl) (by rfl) T.n_sum (by decide +kernel) (pa_cons (pe_slice sl_list (pv 11) po_none (po_some pe_int)) pa_nil)) (Hw.pe_cc C__law_pick (hr.mono (by decide)) (by rfl) pass0 (pa_cons (pv 2) (pa_cons (pe_op Hw.op_powW pe_int pe_int) pa_nil)))) pa_nil))) (Hw.pe_cc C__law_pick (hr.mono (by decide)) (by rfl) pass0 (pa_cons (pv 2) (pa_cons pe_int pa_nil))) (fun _ _ => rfl)))
      (pss_cons (ps_if (pt_cmpR op_ne (pe_callB (Hw.call_reprD hga hr) (by rfl) T.n_repr (by decide +kernel) (pa_cons (Hw.pe_cc C_overlap (hr.mono (by decide)) (by rfl) pass0 (pa_cons (pv 11) (pa_cons (pv 7) pa_nil))) pa_nil)) (pe_callB (Hw.call_reprD hga hr) (by rfl) T.n_repr (by decide +kernel) (pa_cons (Hw.pe_cc C__law_overlap (hr.mono (by decide)) (by rfl) pass0 (pa_cons (pv 11) (pa_cons (pv 7) pa_nil))) pa_nil)) (nomark _)) (pss_one (ps_ret pe_bl)) pss_nil)
      (pss_one (ps_if (PW.pt (pw_and (pt_cmpR (op_neD hr.units) (pv 11) (pe_lst pa_nil) (nomark _)) (pw_and1 (pt_cmpR op_ne (pe_cmpR op_isN (Hw.pe_cc C_overlap (hr.mono (by decide)) (by rfl) pass0 (pa_cons (pv 11) (pa_cons (pv 7) pa_nil))) pe_non (nomark _)) (pe_cmpR op_eq (pe_op op_mod (pv 7) (Hw.pe_cc C_least_period (hr.mono (by decide)) (by rfl) pass0 (pa_cons (pv 11) pa_nil))) pe_int (nomark _)) (nomark _))))) (pss_one (ps_ret pe_bl)) pss_nil)))))))))))))))
      (pss_one (ps_ret (pe_and (pe_cmpR op_eq (Hw.pe_cc C_overlap (hr.mono (by decide)) (by rfl) pass0 (pa_cons (pe_lst (pa_cons pe_int (pa_cons pe_int (pa_cons pe_int pa_nil)))) (pa_cons pe_int pa_nil))) pe_int (nomark _)) (pe_and (pe_cmpR op_eq (Hw.pe_cc C_overlap (hr.mono (by decide)) (by rfl) pass0 (pa_cons (pe_lst pa_nil) (pa_cons pe_int pa_nil))) pe_int (nomark _)) (pe_one (pe_cmpR op_isN (Hw.pe_cc C_overlap (hr.mono (by decide)) (by rfl) pass0 (pa_cons (pe_lst pa_nil) (pa_cons pe_int pa_nil))) pe_non (nomark _)))))))), ?_⟩
  obtain ⟨a, ns, rfl, hs, hl, q⟩ := h
  refine q_forR1 (n := ((max 1 (min 8 ns.length) : Nat) : Int)) (ea_cons (ev_is (ev_cb (ea_cons ev_c (ea_cons (ev_cb (ea_cons ev_c (ea_cons (ev_cb (ea_cons (ev_var rfl) ea_nil) (rc_lenI hs)) ea_nil)) rc_min2) ea_nil)) rc_max2) (by congr 1; split <;> split <;> omega)) ea_nil) (by omega)
    (fun i σ' H' => (∃ v1 v2 v3 v4 v5 v6 v7 v8 v9 v10 v11 v12, σ' = [some (.ref a), v1, v2, v3, v4, v5, v6, v7, v8, v9, v10, v11, v12]) ∧ Ex H H') (fun H1 e1 => ⟨⟨_, _, _, _, _, _, _, _, _, _, _, _, rfl⟩, e1⟩) ?_ ?_
  · rintro i σ' H' hi ⟨⟨v1, v2, v3, v4, v5, v6, v7, v8, v9, v10, v11, v12, rfl⟩, e0⟩
    -- numbers = _law_numbers(script, k)
    refine ⟨_, rfl, _, rfl, a, ns, i, rfl, ex_l e0 hs, by omega, by omega, fun n H1 hn e1 nb => ?_⟩
    have hn0 : H n = none := fresh_back e0 hn
    have w0 : Wn n (10 ^ 8) H H1 := ⟨hn0, e0.trans e1, nb⟩
    -- for turn in range(3)
    refine s_forR1 (n := 3) (ea_cons ev_c ea_nil) (by decide)
      (fun j σ' H' => (∃ v3 v4 v5 v6 v7 v8 v9 v10 v11 v12, σ' = [some (.ref a), some (.int (i : Int)), some (.ref n), v3, v4, v5, v6, v7, v8, v9, v10, v11, v12]) ∧ Wn n (10 ^ 8 - 1000 * j) H H') (fun H2 e2 => ⟨⟨_, _, _, _, _, _, _, _, _, _, rfl⟩, w0.step e2⟩) ?_ ?_
    · rintro j σ' H2 hj ⟨⟨v3, v4, v5, v6, v7, v8, v9, v10, v11, v12, rfl⟩, w2⟩
      obtain ⟨kk, hkk⟩ : ∃ kk, kk = 10 ^ 8 - 1000 * (j + 1) := ⟨_, rfl⟩
      have w2 := w2.le (j := kk + 800) (by omega)
      -- plan = _law_plan(numbers, 8, 40)
      refine n_plan (k := kk + 700) (most := 8) (wide := 40) rfl ev_c ev_c (by decide) (by decide) (by decide) (w2.le (by omega)) ?_
      intro p ws H3 hp hpn hws hlen w3
      have hwd : Wd ws := Wd.of hws (by decide)
      have hsp : SqL K (upd H p (.lst (nl ws))) p (nl ws) := sq_of upd_same
      -- kept = repr(plan)
      refine q_asg (v := .str (dN ws).shown) (Ev.mono w3.ex (ev_cb (ea_cons (ev_var rfl) ea_nil) (rc_repr (dp_nl hsp) (sh_dN (fun x hx => by have := hws x hx; omega) (by omega))))) fun H4 e4 => ?_
      have w4 := w3.step e4
      -- short = columns(plan, 1000)
      refine q_asgL (xs := nl (cols ws 1000)) (EvL.mono w4.ex (el_call (ea_cons (ev_var rfl) (ea_cons ev_c ea_nil)) (spl_retL fun _ e _ _ k => ⟨_, _, 1000, rfl, ex_l e hsp, hwd, by omega, by omega, k⟩))) fun p2 H5 hp2 e5 h5 => ?_
      have hp2' := fresh_back w4.ex hp2
      have w5 := w4.new hp2 e5 h5
      have ne2 : p ≠ p2 := ne_of_none (show (upd H p (.lst (nl ws))) p = some (.lst (nl ws)) from upd_same) hp2'
      have hsp2 : SqL K (upd (upd H p (.lst (nl ws))) p2 (.lst (nl (cols ws 1000)))) p (nl ws) := sq_of (by rw [upd_ne ne2]; exact upd_same)
      have hss : SqL K (upd (upd H p (.lst (nl ws))) p2 (.lst (nl (cols ws 1000)))) p2 (nl (cols ws 1000)) := sq_of upd_same
      -- for lag in range(100)
      refine q_forR1 (n := 100) (ea_cons ev_c ea_nil) (by decide)
        (fun l σ' H' => (∃ v7 v8 v9, σ' = [some (.ref a), some (.int (i : Int)), some (.ref n), some (.int (j : Int)), some (.ref p), some (.str (dN ws).shown), some (.ref p2), v7, v8, v9, v10, v11, v12]) ∧ Wn n (kk + 700) (upd (upd H p (.lst (nl ws))) p2 (.lst (nl (cols ws 1000)))) H') (fun H6 e6 => ⟨⟨_, _, _, rfl⟩, w5.step e6⟩) ?_ ?_
      · rintro l σ' H6 hl6 ⟨⟨v7, v8, v9, rfl⟩, w6⟩
        have hO : ∀ x, lawOverlapO ws l = some x → x ≤ 40 := fun x hx => lawO_le (fun y hy => (hws y hy).2) hx
        -- due
        refine q_asg (v := vO (lawOverlapO ws l)) (Ev.mono w6.ex (ev_call (ea_cons (ev_var rfl) (ea_cons (ev_var rfl) ea_nil)) (spv_retV fun _ e _ _ k => ⟨_, _, _, rfl, ex_l e hsp2, hwd, by omega, fun x hx => by have := hws x hx; omega, k⟩))) fun H7 e7 => ?_
        have w7 := w6.step e7
        -- repr([..]) != repr([due, due])
        have shO := sh_dO fun x hx => Nat.le_trans (hO x hx) (by decide : 40 ≤ 10 ^ 41)
        have sh2 : Showy (.list [dO (lawOverlapO ws l), dO (lawOverlapO ws l)]) := (Sh.list (n := 0) (m := 140) fun d hd => by
          simp only [List.mem_cons, List.not_mem_nil, or_false, or_self] at hd
          rw [hd]
          exact shO).showy (by decide) (show 2 * (140 + 1) ≤ 100000 by decide)
        refine q_when (b := false) (Evl.EvT.mono w7.ex (et_reprNe (x := (PyData.list [dO (lawOverlapO ws l), dO (lawOverlapO ws l)]).shown) ?_ ?_)) (fun hb => by cases hb) fun _ H8 e8 => ?_
        · refine ev_cbL (el_lst (ea_cons (ev_call (ea_cons (ev_var rfl) (ea_cons (ev_var rfl) ea_nil)) (spv_retV fun _ e _ _ k => ⟨_, _, _, rfl, ex_l e hsp2, hwd, by omega, by omega, k⟩))
            (ea_cons (ev_callN0 (ea_cons (ev_var rfl) (ea_cons (ev_var rfl) ea_nil)) rfl (spv_retV fun _ e _ _ k => ⟨_, _, _, rfl, ex_l e hsp2, hwd, by omega, by omega, k⟩)) ea_nil)) (show 2 ≤ 100000 by decide)) fun p7 H9 hp9 e9 => ?_
          rw [overlap_law hwd.pos] at hp9
          exact rc_repr (.lst (sq_of hp9) (dpAll2 (dp_vO _) (dp_vO _))) sh2
        · exact ev_cbL (el_lst (ea_cons (ev_var rfl) (ea_cons (ev_var rfl) ea_nil)) (show 2 ≤ 100000 by decide)) fun p7 H9 hp9 e9 => rc_repr (.lst (sq_of hp9) (dpAll2 (dp_vO _) (dp_vO _))) sh2
        have w8 := w7.step e8
        -- far
        refine q_asg (v := .int (((lawOverlapO ws l).getD 200 : Nat) : Int)) (ev_if (b := (lawOverlapO ws l).isNone) (et_is (et_test (ev_op (ev_var rfl) ev_c rv_isN)) vO_non) (fun hb => ?_) fun hb => ?_) fun H9 e9 => ?_
        · rw [Option.isNone_iff_eq_none] at hb
          rw [hb]
          exact ev_c
        · cases hc : lawOverlapO ws l with
          | none => rw [hc] at hb; cases hb
          | some x =>
            exact ev_var rfl
        have w9 := w8.step e9
        -- short[..] != short[..] or ..
        have hfar : ∀ i, i < (lawOverlapO ws l).getD 200 → col ws (l + i) = col ws i := by
          intro i hi
          cases hc : lawOverlapO ws l with
          | none => exact lawOverlap_none hwd.pos hc i
          | some x =>
            rw [hc] at hi
            exact (lawOverlap_some hc).1 i hi
        have hfl : (lawOverlapO ws l).getD 200 ≤ 200 := by
          cases hc : lawOverlapO ws l with
          | none => exact Nat.le_refl _
          | some x => have := hO x hc; show x ≤ 200; omega
        refine s_when (b := false) (Evl.EvT.mono w9.ex (et_or (a := false) (b := false) ?_ fun _ => ?_)) (fun hb => by cases hb) fun _ H10 e10 => ⟨⟨_, _, _, rfl⟩, w9.step e10⟩
        · refine et_is (et_test (ev_opLL (el_sl (ev_var rfl) (eo_some (ev_var rfl)) (eo_some (ev_op (ev_var rfl) (ev_var rfl) rv_addN)) hss) (el_sl (ev_var rfl) eo_none (eo_some (ev_var rfl)) hss) fun pa pb Hx ha hb _ => by
            rw [cutV_nn, nl_take, nl_drop, short_same hfar (by omega)] at ha
            rw [cutV_0n, nl_take] at hb
            exact rv_neD (dp_nl (sq_of ha)) (dp_nl (sq_of hb)) (shaped_dN _) (shaped_dN _))) ?_
          rw [eqv_dN]
          simp
        · cases hc : lawOverlapO ws l with
          | none => exact et_and (a := false) (b := true) (et_is (et_test (ev_op (ev_var (v := .non) rfl) ev_c rv_notN)) (by simp)) fun h => by cases h
          | some x =>
            have hx := hO x hc
            have hne := (lawOverlap_some hc).2.1
            refine et_and (a := true) (b := false) (et_is (et_test (ev_op (ev_var (v := .int (x : Int)) rfl) ev_c rv_notN)) (by simp)) fun _ => ?_
            refine et_is (et_test (ev_op (ev_op (ev_var rfl) (ev_op (ev_var rfl) (ev_var (v := .int (x : Int)) rfl) rv_addN) (rv_ixL hss (nl_at (cols_get (by omega))))) (ev_op (ev_var rfl) (ev_var (v := .int (x : Int)) rfl) (rv_ixL hss (nl_at (cols_get (by omega))))) (rv_eq rfl))) ?_
            rw [dec_vint]
            exact decide_eq_false hne
      · rintro σ' H6 ⟨⟨v7, v8, v9, rfl⟩, w6⟩
        -- for lag in [pick ..]
        refine n_forNL (k1 := kk + 600) (enl_lcR1 (k := kk + 600) (m := 5) (Pz := fun z => ∃ r : Nat, z = (r : Int) ∧ r < 10 ^ 30 - 99) (ea_cons ev_c ea_nil) (by decide) (fun _ => rfl) fun i kq G' hi e => en_pick rfl (ev_op (ev_op (ev_n 10) (ev_n 30) (rv_powN (b := 4) (by decide) (by decide) (by decide))) (ev_n 99) (rv_subN (by decide))) (by decide) (by decide)) (w6.le (by omega))
          (fun p3 js l σ' H' => (∃ v7, σ' = [some (.ref a), some (.int (i : Int)), some (.ref n), some (.int (j : Int)), some (.ref p), some (.str (dN ws).shown), some (.ref p2), v7, v8, v9, v10, v11, v12]) ∧ H p3 = none ∧ H' p3 = some (.lst (il js)) ∧ Wn n (kk + 600) (upd (upd H p (.lst (nl ws))) p2 (.lst (nl (cols ws 1000)))) H')
          (fun js p3 H7 _ hp3 ne3 w7 => ⟨⟨_, rfl⟩, fresh_back ((Ex.new hp).trans (Ex.new hp2')) hp3, w7.ex _ _ upd_same, w7.drop hp3⟩) (fun js p3 l σ' H' ⟨_, _, h3, _⟩ => sq_of h3) ?_ ?_
        · rintro js p3 l z σ' H7 ⟨hjl, hjs⟩ hz ⟨⟨v7, rfl⟩, hp3, hh3, w7⟩
          obtain ⟨s, rfl, hs30⟩ := hjs z (List.mem_of_getElem? hz)
          refine s_when (b := false) (et_or (a := false) (b := false) (Evl.EvT.mono w7.ex (et_reprNe (ev_reprO rfl rfl hsp2 hwd (by omega) (by omega)) (ev_reprL rfl rfl hsp2 hwd (by omega) fun x hx => by have := hws x hx; omega))) fun _ => Evl.EvT.mono w7.ex (et_reprNe (ev_cb (ea_cons (ev_var rfl) ea_nil) (rc_repr (dp_nl hsp2) (sh_dN (fun x hx => by have := hws x hx; omega) (by omega)))) (ev_var rfl))) (fun hb => by cases hb) fun _ H8 e8 => ⟨⟨_, rfl⟩, hp3, e8 _ _ hh3, w7.step e8⟩
        · rintro js p3 σ' H7 _ ⟨⟨v7, rfl⟩, hp3, hh3, w7⟩
          -- if turn == 0: ..
          refine q_cut (M := fun σ' H' => (∃ v7 v10, σ' = [some (.ref a), some (.int (i : Int)), some (.ref n), some (.int (j : Int)), some (.ref p), some (.str (dN ws).shown), some (.ref p2), v7, v8, v9, v10, v11, v12]) ∧ Wn n (kk + 400) (upd (upd H p (.lst (nl ws))) p2 (.lst (nl (cols ws 1000)))) H') ?_ ?_
          · refine s_when (b := decide (V.int (j : Int) = V.int 0)) (et_test (ev_op (ev_var rfl) ev_c (rv_eq rfl))) (fun _ H8 e8 => ?_) fun _ H8 e8 => ⟨⟨_, _, rfl⟩, (w7.step e8).le (by omega)⟩
            have w8 := w7.step e8
            -- near
            refine n_asgNL (k1 := kk + 500) (P := fun js => ∃ w5 : List Nat, js = w5.map (fun (n : Nat) => (n : Int)) ∧ Wd w5 ∧ w5.length ≤ 7 ∧ ∃ x y t, w5 = x :: y :: t ∧ y ≤ x) (enl_cat (xs := (ws.take 5).map fun (n : Nat) => (n : Int)) (P := fun js => ∃ r1 r2 : Nat, js = [((10000 - r1 : Nat) : Int), ((9990 - r2 : Nat) : Int)] ∧ r1 < 9 ∧ r2 < 5000)
              (enl_lst (ena_cons (Pa := fun z => ∃ r : Nat, z = ((10000 - r : Nat) : Int) ∧ r < 9) (Pr := fun js => ∃ r : Nat, js = [((9990 - r : Nat) : Int)] ∧ r < 5000) (en_I0 (Pa := fun z => z = 10000) (Pb := fun z => ∃ r : Nat, z = (r : Int) ∧ r < 9) (en_pure (ev_op (ev_n 10) (ev_n 4) (rv_powN (b := 4) (by decide) (by decide) (by decide))) (by decide)) (en_le (en_pick (k := kk + 501) (m := 9) rfl ev_c (by decide) (by decide)) (by omega)) fun a b h1 ⟨r, h2, h3⟩ => ⟨r, by omega, h3⟩)
                (ena_cons (Pa := fun z => ∃ r : Nat, z = ((9990 - r : Nat) : Int) ∧ r < 5000) (Pr := fun js => js = []) (en_I0 (Pa := fun z => z = 9990) (Pb := fun z => ∃ r : Nat, z = (r : Int) ∧ r < 5000) (en_pure ev_c rfl) (en_pick (k := kk + 500) (m := 5000) rfl ev_c (by decide) (by decide)) fun a b h1 ⟨r, h2, h3⟩ => ⟨r, by omega, h3⟩) (ena_nil rfl) fun z js ⟨r, h1, h2⟩ h => ⟨r, by rw [h1, h], h2⟩) fun z js ⟨r, h1, h2⟩ ⟨r', h3, h4⟩ => ⟨r, r', by rw [h1, h3], h2, h4⟩) fun js ⟨r1, r2, h, _⟩ => by rw [h]; exact (by decide : 2 ≤ 100000))
              (el_takeN 5 (ev_var rfl) hsp2)
              (fun js ⟨r1, r2, h, _⟩ => by rw [h]; simp only [List.length_cons, List.length_nil, List.length_map, List.length_take]; omega)
              fun js ⟨r1, r2, h, h1, h2⟩ => ⟨(10000 - r1) :: (9990 - r2) :: ws.take 5, by rw [h]; rfl, fun x hx => by
                rcases List.mem_cons.mp hx with e | hx
                · omega
                · rcases List.mem_cons.mp hx with e | hx
                  · omega
                  · exact hwd x (List.mem_of_mem_take hx), by simp only [List.length_cons, List.length_take]; omega, _, _, _, rfl, by omega⟩) w8 ?_
            rintro _ p8 H9 ⟨w5, rfl, hw5, hl5, x, y, t, hxy, hyx⟩ hp8 ne8 w9
            rw [← nl_il] at w9
            have hx := hw5 x (by rw [hxy]; exact List.mem_cons_self)
            have hy := hw5 y (by rw [hxy]; exact List.mem_cons_of_mem _ List.mem_cons_self)
            have hs8 : SqL K (upd (upd (upd H p (.lst (nl ws))) p2 (.lst (nl (cols ws 1000)))) p8 (.lst (nl w5))) p8 (nl w5) := sq_of upd_same
            have i0 : ∀ {G'}, Ex (upd (upd (upd H p (.lst (nl ws))) p2 (.lst (nl (cols ws 1000)))) p8 (.lst (nl w5))) G' → RV (rIxL K) (.ref p8) (.int 0) G' (.int (x : Int)) := fun e => rv_ixL (ex_l e hs8) (nl_at (i := 0) (by rw [hxy]; rfl))
            have i1 : ∀ {G'}, Ex (upd (upd (upd H p (.lst (nl ws))) p2 (.lst (nl (cols ws 1000)))) p8 (.lst (nl w5))) G' → RV (rIxL K) (.ref p8) (.int 1) G' (.int (y : Int)) := fun e => rv_ixL (ex_l e hs8) (nl_at (i := 1) (by rw [hxy]; rfl))
            refine n_asg (k1 := kk + 400) (Pz := fun z => ∃ s : Nat, z = (s : Int) ∧ s ≤ 10 ^ 6) (en_ixD (k1 := kk + 499) (P := fun js => js.length = 4 ∧ ∀ z ∈ js, ∃ s : Nat, z = (s : Int) ∧ s ≤ 10 ^ 6)
              (enl_lst (ena_cons (Pa := fun z => ∃ s : Nat, z = (s : Int) ∧ s ≤ 10 ^ 6) (Pr := fun js => js.length = 3 ∧ ∀ z ∈ js, ∃ s : Nat, z = (s : Int) ∧ s ≤ 10 ^ 6) (en_pure (ev_op (ev_var rfl) ev_c (i1 (Ex.refl _))) ⟨y, rfl, by omega⟩)
                (ena_cons (Pa := fun z => ∃ s : Nat, z = (s : Int) ∧ s ≤ 10 ^ 6) (Pr := fun js => js.length = 2 ∧ ∀ z ∈ js, ∃ s : Nat, z = (s : Int) ∧ s ≤ 10 ^ 6) (en_pure (ev_op (ev_op (ev_var rfl) ev_c (i0 (Ex.refl _))) (ev_op (ev_var rfl) ev_c (i1 (Ex.refl _))) rv_I0) ⟨x - y, by omega, by omega⟩)
                (ena_cons (Pa := fun z => ∃ s : Nat, z = (s : Int) ∧ s ≤ 10 ^ 6) (Pr := fun js => js.length = 1 ∧ ∀ z ∈ js, ∃ s : Nat, z = (s : Int) ∧ s ≤ 10 ^ 6) (en_imp (en_pick (k := kk + 499) (m := 20000) rfl ev_c (by decide) (by decide)) fun z ⟨r, h1, h2⟩ => ⟨r, h1, by omega⟩)
                (ena_cons (Pa := fun z => ∃ s : Nat, z = (s : Int) ∧ s ≤ 10 ^ 6) (Pr := fun js => js = []) (en_pure (ev_op (ev_op (ev_var rfl) ev_c (i0 (Ex.refl _))) ev_c (rv_I (.inr ⟨by decide, by decide⟩))) ⟨x * 9, by omega, by omega⟩) (ena_nil rfl) cons0) consP) consP) consP) fun js h => by rw [h.1]; decide)
              (fun js p9 h _ => en_weak (en_imp (en_pick (k := kk + 498) (m := 4) rfl ev_c (by decide) (by decide)) fun z ⟨r, h1, h2⟩ => by rw [h.1]; omega) (by omega)) fun js h => h.2) w9 ?_
            rintro _ H10 ⟨s, rfl, hs6⟩ w10
            refine s_when (b := false) (Evl.EvT.mono w10.ex (et_reprNe (ev_reprO rfl rfl hs8 hw5 (by omega) (by omega)) (ev_reprL rfl rfl hs8 hw5 (by omega) fun x hx => by have := hw5 x hx; omega))) (fun hb => by cases hb) fun _ H11 e11 => ⟨⟨_, _, rfl⟩, (w10.step e11).drop hp8⟩
          · rintro σ' H8 ⟨⟨v7, v10, rfl⟩, w8⟩
            -- great = _law_plan(numbers, 20, 400)
            refine n_plan (k := kk + 200) (most := 20) (wide := 400) rfl ev_c ev_c (by decide) (by decide) (by decide) (w8.le (by omega)) ?_
            intro p4 gs H9 hp4 ne4 hgs hgl w9
            have hgd : Wd gs := Wd.of hgs (by decide)
            have hs4 : SqL K (upd (upd (upd H p (.lst (nl ws))) p2 (.lst (nl (cols ws 1000)))) p4 (.lst (nl gs))) p4 (nl gs) := sq_of upd_same
            obtain ⟨S, hS, hSl⟩ := sum_take1 gs (B := 400) fun x hx => (hgs x hx).2
            refine n_asg (k1 := kk) (Pz := fun z => ∃ s : Nat, z = (s : Int) ∧ s ≤ 10 ^ 23) (en_ixD (k1 := kk + 100) (P := fun js => js.length = 2 ∧ ∀ z ∈ js, ∃ s : Nat, z = (s : Int) ∧ s ≤ 10 ^ 23)
              (enl_lst (ena_cons (Pa := fun z => ∃ s : Nat, z = (s : Int) ∧ s ≤ 10 ^ 23) (Pr := fun js => js.length = 1 ∧ ∀ z ∈ js, ∃ s : Nat, z = (s : Int) ∧ s ≤ 10 ^ 23) (en_le (en_imp (en_pick (k := kk + 101) (m := 900) rfl ev_c (by decide) (by decide)) fun z ⟨r, h1, h2⟩ => ⟨r, h1, by omega⟩) (by omega))
                (ena_cons (Pa := fun z => ∃ s : Nat, z = (s : Int) ∧ s ≤ 10 ^ 23) (Pr := fun js => js = []) (en_I (Pa := fun z => z = (S : Int)) (Pb := fun z => ∃ r : Nat, z = (r : Int) ∧ r < 10 ^ 20) (en_pure (ev_cbL (el_takeN 1 (ev_var rfl) hs4) fun p5 H5 hp5 e5 => by rw [← hS]; exact rc_sum (sq_of hp5)) rfl)
                  (en_pick (k := kk + 100) (m := 10 ^ 20) rfl (ev_op (ev_n 10) (ev_n 20) (rv_powN (b := 4) (by decide) (by decide) (by decide))) (by decide) (by decide)) fun z z' h1 ⟨r, h2, h3⟩ => ⟨.inl ⟨by omega, by omega⟩, S * r, by rw [h1, h2, Int.natCast_mul], by
                    have h4 : S * r ≤ 400 * 10 ^ 20 := Nat.mul_le_mul hSl (by omega)
                    omega⟩) (ena_nil rfl) cons0) consP) fun js h => by rw [h.1]; decide)
              (fun js p9 h _ => en_weak (en_imp (en_pick (k := kk + 99) (m := 2) rfl ev_c (by decide) (by decide)) fun z ⟨r, h1, h2⟩ => by rw [h.1]; omega) (by omega)) fun js h => h.2) w9 ?_
            rintro _ H10 ⟨s, rfl, hs23⟩ w10
            refine q_when (b := false) (Evl.EvT.mono w10.ex (et_reprNe (ev_reprO rfl rfl hs4 hgd (by omega) (by omega)) (ev_reprL rfl rfl hs4 hgd (by omega) fun x hx => by have := hgs x hx; omega))) (fun hb => by cases hb) fun _ H11 e11 => ?_
            have w11 := w10.step e11
            refine s_when (b := false) (Evl.EvT.mono w11.ex ?_) (fun hb => by cases hb) fun _ H12 e12 => ⟨⟨_, _, _, _, _, _, _, _, _, _, rfl⟩, ?_⟩
            · cases gs with
              | nil => exact et_and (a := false) (b := true) (et_is (et_test (ev_nilNe (ev_var rfl) hs4)) (by simp)) fun h => by cases h
              | cons W t =>
                refine et_and (a := true) (b := false) (et_is (et_test (ev_nilNe (ev_var rfl) hs4)) (by simp)) fun _ => ?_
                obtain ⟨pp, hpp⟩ : ∃ pp, wholeO (eff (W :: t)) = some pp := by
                  obtain ⟨t', ht⟩ := eff_cons W t
                  exact ⟨_, by rw [ht]; rfl⟩
                have hpos : 0 < pp := by
                  obtain ⟨t', ht⟩ := eff_cons W t
                  rw [ht] at hpp
                  have e : wp (col (W :: t')) W = pp := Option.some.inj hpp
                  rw [← e]
                  exact (wp_per (col_perW (hgd W List.mem_cons_self).1)).1
                refine et_is (et_test (ev_op (ev_op (ev_call (ea_cons (ev_var rfl) (ea_cons (ev_var rfl) ea_nil)) (spv_retV fun _ e _ _ k => ⟨_, _, _, rfl, ex_l e hs4, hgd, by omega, by omega, k⟩)) ev_c rv_isN)
                  (ev_op (ev_op (ev_var rfl) (ev_is (ev_call (ea_cons (ev_var rfl) ea_nil) (spv_retV fun _ e _ _ k => ⟨_, _, rfl, ex_l e hs4, hgd, by omega, k⟩)) (w := .int (pp : Int)) (by rw [hpp]; rfl)) (rv_modN hpos)) (ev_c (v := .int ((0 : Nat) : Int))) (rv_eq rfl)) (rv_ne rfl))) ?_
                have hi := overlap_none_iff hgd.eff.pos hpp s
                have hb : (overlapO (eff (W :: t)) s).isNone = decide (s % pp = 0) := by
                  rw [Bool.eq_iff_iff, Option.isNone_iff_eq_none, decide_eq_true_iff]
                  exact hi
                rw [vO_non, dec_vint, hb]
                simp
            · rw [← hkk]
              exact ((w11.step e12).sub ((Ex.new hp).trans ((Ex.new hp2').trans (Ex.new hp4)))).le (by omega)
    · rintro σ' H2 ⟨⟨v3, v4, v5, v6, v7, v8, v9, v10, v11, v12, rfl⟩, w2⟩
      exact ⟨⟨_, _, _, _, _, _, _, _, _, _, _, _, rfl⟩, w2.ex⟩
  · rintro σ' H' ⟨⟨v1, v2, v3, v4, v5, v6, v7, v8, v9, v10, v11, v12, rfl⟩, e0⟩
    have c : ∀ {σ : L2.St} {H1 : Hp} (ws : List Nat) (s : Nat) (o : Option Nat) {E : XK} {tl : TE} (_ : EvL tl σ H1 (nl ws)) (_ : Wd ws) (_ : ws.length ≤ 1000) (_ : s ≤ 10 ^ 30) (_ : overlapO (eff ws) s = o), Ev (tCall (sp_overlap K) [] E (tCons tl (tCons (tC (.int (s : Int))) tNil))) σ H1 (vO o) := by
      intro σ H1 ws s o E tl h1 h2 h3 h4 h5
      subst h5
      exact ev_callL (vs := [.int (s : Int)]) h1 (fun _ _ => ea_cons ev_c ea_nil) fun p1 H2 hp1 _ => spv_retV fun _ e _ _ k => ⟨_, _, _, rfl, ex_l e (sq_of hp1), h2, h3, h4, k⟩
    refine s_ret (v := .bl (true && (true && true))) (ev_andV (ev_is (ev_op (c [8, 5, 3] 5 (some 5) (el_lst (ea_cons ev_c (ea_cons ev_c (ea_cons ev_c ea_nil))) (show 3 ≤ 100000 by decide)) (fun x hx => by simp at hx; omega) (by decide) (by decide) (by decide)) ev_c (rv_eq rfl)) (by decide)) fun _ => ev_andV (ev_is (ev_op (c [] 7 (some 0) (el_lst ea_nil (by decide)) (fun x hx => by cases hx) (by decide) (by decide) (by decide)) ev_c (rv_eq rfl)) (by decide)) fun _ => ev_is (ev_op (c [] 0 none (el_lst ea_nil (by decide)) (fun x hx => by cases hx) (by decide) (by decide) (by decide)) ev_c rv_isN) (by decide)) fun H2 _ => q H2
end

def d_is_integer : He.DefD := ⟨("is_integer", none), "is_integer", "is_integer", defArgs s_is_integer, defBody s_is_integer, defScope s_is_integer, [], []⟩
def d_is_width : He.DefD := ⟨("is_width", none), "is_width", "is_width", defArgs s_is_width, defBody s_is_width, defScope s_is_width, [], []⟩
def d_is_widths : He.DefD := ⟨("is_widths", none), "is_widths", "is_widths", defArgs s_is_widths, defBody s_is_widths, defScope s_is_widths, [], []⟩
def d_require_widths : He.DefD := ⟨("require_widths", none), "require_widths", "require_widths", defArgs s_require_widths, defBody s_require_widths, defScope s_require_widths, [], []⟩
def d_require_position : He.DefD := ⟨("require_position", none), "require_position", "require_position", defArgs s_require_position, defBody s_require_position, defScope s_require_position, [], []⟩
def d_require_length : He.DefD := ⟨("require_length", none), "require_length", "require_length", defArgs s_require_length, defBody s_require_length, defScope s_require_length, [.int 0, .int 1000000000000000000000000000000], []⟩
def d_column_of : He.DefD := ⟨("column_of", none), "column_of", "column_of", defArgs s_column_of, defBody s_column_of, defScope s_column_of, [], []⟩
def d_effective_of : He.DefD := ⟨("effective_of", none), "effective_of", "effective_of", defArgs s_effective_of, defBody s_effective_of, defScope s_effective_of, [], []⟩
def d_column : He.DefD := ⟨("column", none), "column", "column", defArgs s_column, defBody s_column, defScope s_column, [], []⟩
def d_columns : He.DefD := ⟨("columns", none), "columns", "columns", defArgs s_columns, defBody s_columns, defScope s_columns, [], []⟩
def d_border_lengths : He.DefD := ⟨("border_lengths", none), "border_lengths", "border_lengths", defArgs s_border_lengths, defBody s_border_lengths, defScope s_border_lengths, [], []⟩
def d_least_period_of : He.DefD := ⟨("least_period_of", none), "least_period_of", "least_period_of", defArgs s_least_period_of, defBody s_least_period_of, defScope s_least_period_of, [], []⟩
def d_first_columns : He.DefD := ⟨("first_columns", none), "first_columns", "first_columns", defArgs s_first_columns, defBody s_first_columns, defScope s_first_columns, [], []⟩
def d_whole_period : He.DefD := ⟨("whole_period", none), "whole_period", "whole_period", defArgs s_whole_period, defBody s_whole_period, defScope s_whole_period, [], []⟩
def d_overlap_of : He.DefD := ⟨("overlap_of", none), "overlap_of", "overlap_of", defArgs s_overlap_of, defBody s_overlap_of, defScope s_overlap_of, [], []⟩
def d_overlap : He.DefD := ⟨("overlap", none), "overlap", "overlap", defArgs s_overlap, defBody s_overlap, defScope s_overlap, [], []⟩
def d_least_period : He.DefD := ⟨("least_period", none), "least_period", "least_period", defArgs s_least_period, defBody s_least_period, defScope s_least_period, [], []⟩
def d__law_numbers : He.DefD := ⟨("_law_numbers", none), "_law_numbers", "_law_numbers", defArgs s__law_numbers, defBody s__law_numbers, defScope s__law_numbers, [], []⟩
def d__law_pick : He.DefD := ⟨("_law_pick", none), "_law_pick", "_law_pick", defArgs s__law_pick, defBody s__law_pick, defScope s__law_pick, [], []⟩
def d__law_plan : He.DefD := ⟨("_law_plan", none), "_law_plan", "_law_plan", defArgs s__law_plan, defBody s__law_plan, defScope s__law_plan, [], []⟩
def d__law_overlap : He.DefD := ⟨("_law_overlap", none), "_law_overlap", "_law_overlap", defArgs s__law_overlap, defBody s__law_overlap, defScope s__law_overlap, [], []⟩
def d_law : He.DefD := ⟨("law", none), "law", "law", defArgs s_law, defBody s_law, defScope s_law, [], []⟩
def fnL : List He.DefD := [d_is_integer, d_is_width, d_is_widths, d_require_widths, d_require_position, d_require_length, d_column_of, d_effective_of, d_column, d_columns, d_border_lengths, d_least_period_of, d_first_columns, d_whole_period, d_overlap_of, d_overlap, d_least_period, d__law_numbers, d__law_pick, d__law_plan, d__law_overlap, d_law]
def faL : List He.Fa := [.glo "is_integer", .glo "is_width", .glo "is_widths", .glo "require_widths", .glo "require_position", .glo "require_length", .glo "column_of", .glo "effective_of", .glo "column", .glo "columns", .glo "border_lengths", .glo "least_period_of", .glo "first_columns", .glo "whole_period", .glo "overlap_of", .glo "overlap", .glo "least_period", .glo "_law_numbers", .glo "_law_pick", .glo "_law_plan", .glo "_law_overlap", .glo "law", .int "MAX_WIDTH" 10000, .int "MAX_LENGTH" 1000000000000000000000000000000, .int "MAX_COLUMNS" 1000, .glo "WrapError", .glo "InvalidWidths", .glo "InvalidPosition", .glo "InvalidLength", .free "len", .free "range", .free "isinstance", .free "int", .free "list", .free "bool", .free "all", .free "sum", .free "max", .free "min", .free "abs", .free "repr", .free "ValueError"]
abbrev RR : PySem.W.OpenRow := PySem.W.OpenLaw.row PySem.Challenge.rw_hardwraps_k14_overlaps
abbrev hkL : PySem.W.Hook := He.hookD 4 faL fnL
def obL (s : PySem.W.SharedT) : He.AlD := He.obsDG 4 faL fnL (HandSHeadRun.getT s)
theorem obL_eq (s : PySem.W.SharedT) : obL s = hkL.obs s.abs := He.obsDG_eq (HandSHeadRun.getT_eq s)
def looseL : List PySem.Str := (["WrapError", "InvalidWidths", "InvalidPosition", "InvalidLength", "MAX_WIDTH", "MAX_LENGTH", "MAX_COLUMNS", "is_integer", "is_width", "is_widths", "require_widths", "require_position", "require_length", "column_of", "effective_of", "column", "columns", "border_lengths", "least_period_of", "first_columns", "whole_period", "overlap_of", "overlap", "least_period", "_law_numbers", "_law_pick", "_law_plan", "_law_overlap"] : List PySem.Str)
theorem runL (w : World) : HandSHeadRun.RunEq RR (PySem.W.view RR.prog [32]) hkL obL 3000 looseL w := by
  intro os
  kernel_rfl
theorem env_of {K : PySem.W.Frag} {h : Heap} {mg : Str → Option Value} (X : K.In h) (G : h.Ns mainGlobals mg) (c : He.SaysD faL fnL K) : Env K mg where
  g_is_integer := He.glo_ok X G (c.fact 0 rfl)
  g_is_width := He.glo_ok X G (c.fact 1 rfl)
  g_is_widths := He.glo_ok X G (c.fact 2 rfl)
  g_require_widths := He.glo_ok X G (c.fact 3 rfl)
  g_require_position := He.glo_ok X G (c.fact 4 rfl)
  g_require_length := He.glo_ok X G (c.fact 5 rfl)
  g_column_of := He.glo_ok X G (c.fact 6 rfl)
  g_effective_of := He.glo_ok X G (c.fact 7 rfl)
  g_column := He.glo_ok X G (c.fact 8 rfl)
  g_columns := He.glo_ok X G (c.fact 9 rfl)
  g_border_lengths := He.glo_ok X G (c.fact 10 rfl)
  g_least_period_of := He.glo_ok X G (c.fact 11 rfl)
  g_first_columns := He.glo_ok X G (c.fact 12 rfl)
  g_whole_period := He.glo_ok X G (c.fact 13 rfl)
  g_overlap_of := He.glo_ok X G (c.fact 14 rfl)
  g_overlap := He.glo_ok X G (c.fact 15 rfl)
  g_least_period := He.glo_ok X G (c.fact 16 rfl)
  g__law_numbers := He.glo_ok X G (c.fact 17 rfl)
  g__law_pick := He.glo_ok X G (c.fact 18 rfl)
  g__law_plan := He.glo_ok X G (c.fact 19 rfl)
  g__law_overlap := He.glo_ok X G (c.fact 20 rfl)
  g_law := He.glo_ok X G (c.fact 21 rfl)
  d_is_integer := c.def_ 0 (d := d_is_integer) rfl
  d_is_width := c.def_ 1 (d := d_is_width) rfl
  d_is_widths := c.def_ 2 (d := d_is_widths) rfl
  d_require_widths := c.def_ 3 (d := d_require_widths) rfl
  d_require_position := c.def_ 4 (d := d_require_position) rfl
  d_require_length := c.def_ 5 (d := d_require_length) rfl
  d_column_of := c.def_ 6 (d := d_column_of) rfl
  d_effective_of := c.def_ 7 (d := d_effective_of) rfl
  d_column := c.def_ 8 (d := d_column) rfl
  d_columns := c.def_ 9 (d := d_columns) rfl
  d_border_lengths := c.def_ 10 (d := d_border_lengths) rfl
  d_least_period_of := c.def_ 11 (d := d_least_period_of) rfl
  d_first_columns := c.def_ 12 (d := d_first_columns) rfl
  d_whole_period := c.def_ 13 (d := d_whole_period) rfl
  d_overlap_of := c.def_ 14 (d := d_overlap_of) rfl
  d_overlap := c.def_ 15 (d := d_overlap) rfl
  d_least_period := c.def_ 16 (d := d_least_period) rfl
  d__law_numbers := c.def_ 17 (d := d__law_numbers) rfl
  d__law_pick := c.def_ 18 (d := d__law_pick) rfl
  d__law_plan := c.def_ 19 (d := d__law_plan) rfl
  d__law_overlap := c.def_ 20 (d := d__law_overlap) rfl
  d_law := c.def_ 21 (d := d_law) rfl
  c_MAX_WIDTH := He.int_ok X G (c.fact 22 rfl)
  c_MAX_LENGTH := He.int_ok X G (c.fact 23 rfl)
  c_MAX_COLUMNS := He.int_ok X G (c.fact 24 rfl)
  g_WrapError := He.glo_ok X G (c.fact 25 rfl)
  g_InvalidWidths := He.glo_ok X G (c.fact 26 rfl)
  g_InvalidPosition := He.glo_ok X G (c.fact 27 rfl)
  g_InvalidLength := He.glo_ok X G (c.fact 28 rfl)
  n_len := He.free_ok X G (c.fact 29 rfl)
  n_range := He.free_ok X G (c.fact 30 rfl)
  n_isinstance := He.free_ok X G (c.fact 31 rfl)
  n_int := He.free_ok X G (c.fact 32 rfl)
  n_list := He.free_ok X G (c.fact 33 rfl)
  n_bool := He.free_ok X G (c.fact 34 rfl)
  n_all := He.free_ok X G (c.fact 35 rfl)
  n_sum := He.free_ok X G (c.fact 36 rfl)
  n_max := He.free_ok X G (c.fact 37 rfl)
  n_min := He.free_ok X G (c.fact 38 rfl)
  n_abs := He.free_ok X G (c.fact 39 rfl)
  n_repr := He.free_ok X G (c.fact 40 rfl)
  n_ValueError := He.free_ok X G (c.fact 41 rfl)

/-- the end -/
theorem law_holds : PySem.Challenge.rw_hardwraps_k14_overlaps.Holds := by
  w_on; o_law
  refine HandSHeadRun.head_any (r := RR) (q := PySem.W.view RR.prog [32]) (H := hkL) (ob := obL) (M := 3000) (loose := looseL)
    (d := HandSHeadRun.topDef RR.prog 32) (kwd := []) obL_eq
    (by kernel_rfl) (fun s => by kernel_rfl) runL (by kernel_rfl) (by kernel_rfl) (by kernel_rfl) (by rfl)
    (by first | assumption | decide +kernel) (by decide +kernel) ⟨rfl, rfl, rfl, rfl, rfl, by decide +kernel⟩ ?hw ?hc
  case hw => w_witness2
  case hc =>
    refine Hw.walkG (l := PySem.Challenge.rw_hardwraps_k14_overlaps) (n := 63) (k := 7) (x := "script") (CX := fun _ => CX0) rfl (by decide) (by kernel_rfl)
      ⟨rfl, by decide, by decide⟩ ?F (fun _ _ _ _ _ z => z)
    intro w mg fa h Y G hmg0
    obtain ⟨K, KX, c⟩ := Y
    have T := env_of KX G c
    have hmg : mg ("law" : Str) = some (.ref fa) := by
      have e : (HandSHeadRun.topDef RR.prog 32).name = ("law" : Str) := by kernel_rfl
      rw [← e]
      exact hmg0
    obtain ⟨fd, F⟩ := T.d_law
    have ef : fa = He.ga K "law" := by
      have := hmg.symm.trans T.g_law
      cases this
      rfl
    subst ef
    have b := FunD.bindsA (ps := ["script"]) F fun _ _ _ _ _ _ us hl => match us, hl with | [_], _ => rfl
    exact ⟨K, fd, sp_law K, KX, fun s v => b s [v] rfl, fun H a ns hl hb _ hS => ⟨a, ns, rfl, hS, hl, fun _ => rfl⟩, fun base _ _ => ok_law T F⟩

end Lw
set_option maxRecDepth 100000 in
set_option maxHeartbeats 0 in
theorem PySem.Challenge.cw_hardwraps_k14_overlaps_holds : PySem.Challenge.rw_hardwraps_k14_overlaps.Holds := by
  exact Lw.law_holds
#print axioms PySem.Challenge.cw_hardwraps_k14_overlaps_holds
