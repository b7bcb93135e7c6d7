import PyProof.Rows.All
import Wide.All
import OpenK.AllK
import Wide.FinOn
import HandS.ForMost
import HandS.ForExc
import HandS.Wide
import HandS.IsInst
import HandS.TupAny
import HandS.Conv
import HandS.EndBits
import HandS.Style
import HandS.More
import KE.KExcSuper
import HandS.ExcField
import HandS.Lambda
import PyProof.SumAny
import PyProof.ListOps
import PyProof.NeKinds
import HandS.RaiseMore
import HandS.EndTab
import PySem.Challenge.RW_holdsfailsopen_k25_papers_as_text
set_option Elab.async false
set_option linter.all false
set_option maxRecDepth 100000
set_option maxHeartbeats 4000000
/-! Foundation: defs that know that no repr is under way around them; calls of such by position and by keyword. -/
namespace My
open PySem PySem.Spec PyProof.Rows L2

/-- a def's promise, kept wherever no repr is under way -/
structure FnG (P : Program) (w : World) (K : PySem.W.Frag) (mg : Str → Option Value) (base : Heap) (C : CXT) (k : Nat) (f : Addr) (fd : FuncData) (ps : List Str) (sp : Sp) : Prop where
  len : ∀ vs H Q E, sp vs H Q E → vs.length = ps.length
  run : ∀ (A : Around) (outer : List Env) (s : Shared) (H : Hp) (args : Args) (us : List Value) (vs : List V) (Q : VK) (E : XK),
    Room k A → A.guards = some [] → Env0 P w K mg base A outer s H → BindsTo s fd args (ps.zip us) → Vals vs us → sp vs H Q E →
    codeAny (model P w) A (.call (.ref f) args) (CR C outer P w H s Q E) s

section
variable {P : Program} {w : World} {K : PySem.W.Frag} {mg : Str → Option Value} {base : Heap} {C : CXT} {k : Nat} {f : Addr} {fd : FuncData} {ps : List Str} {sp : Sp}
theorem FnG.of (F : FnOk P w K mg base C k f fd ps sp) : FnG P w K mg base C k f fd ps sp :=
  ⟨F.len, fun A outer s H args us vs Q E hr _ => F.run A outer s H args us vs Q E hr⟩
theorem FnG.mono {j : Nat} (F : FnG P w K mg base C j f fd ps sp) (h : j ≤ k) : FnG P w K mg base C k f fd ps sp :=
  ⟨F.len, fun A outer s H args us vs Q E hr => F.run A outer s H args us vs Q E (hr.mono h)⟩

/-- a def of the text by its body -/
theorem def_ok {x qual : Str} {st : Stmt} {N : List Str} (F : Fun K x qual st f fd) (S : FnScope N ps (defScope st))
    (len : ∀ vs H Q E, sp vs H Q E → vs.length = ps.length)
    (body : ∀ (cdv : Value) (A : Around) (outer : List Env) (s : Shared) (H : Hp) (vs : List V) (Q : VK) (E : XK),
      Room k (A.deeper (envOfC qual (defScope st) s.heap.objs.size f cdv)) → (A.deeper (envOfC qual (defScope st) s.heap.objs.size f cdv)).guards = some [] → sp vs H Q E →
      ∃ t, PSs (cxOf C P w K mg base N qual (defScope st) f cdv A outer s H E) (defBody st) t ∧ t { nx := fun _ H' => Q .non H', rt := Q } (start N vs) H) :
    FnG P w K mg base C (k + 1) f fd ps sp := by
  obtain ⟨oc, od, kV, doc, pm, an, cdv, ct, osl, rfl, lk, hcd⟩ := F.ex
  constructor
  · exact len
  intro A outer s H args us vs Q E hr hg e0 hb r hsp
  have hl := len _ _ _ _ hsp
  have up : ∀ b o, base.get? b = some o → s.heap.get? b = some o := fun b o e => (e0.bs b o e).1
  have KX : K.In s.heap := e0.mod.kin.keeps up
  have kinds : ∀ y ∈ ps.zip us, (defScope st).names.lookup y.1 = some .local ∨
      ((defScope st).names.lookup y.1 = some .cell ∧ ((cellsFrom (s.heap.objs.size + 1) (defScope st).names []).lookup y.1).isSome = true) := by
    intro y hy
    cases S.par y.1 (List.of_mem_zip hy).1 with
    | inl q => exact Or.inl q
    | inr q => exact Or.inr ⟨q, PySem.W.cellsFrom_some _ _ _ (Or.inl q)⟩
  refine codeAny_call_function hr.depth (KX _ _ lk) rfl S.co S.gen rfl (PySem.W.codeRec_of KX hcd) (hb _ _ _ _ ?_)
  refine wpAny_newFunctionEnv_cells S.kind kinds fun env he s1 x => ?_
  subst he
  refine ⟨(e0.mod.nolimit.keeps up).keeps x.toInCall.keep, codeAny_func ?_⟩
  obtain ⟨t, ht, hq⟩ := body cdv A outer s H vs Q E (hr.deeper _) hg hsp
  have I := inv_start (CX := C) (E := E) (base := base) (mg := mg) (K := K) S hr.hd e0 hl r x
  refine wpAny_mono (ht.run [] s1 (start N vs) H _ I hq) ?_ (fun e s' z => z)
  intro fl s' z
  cases fl with
  | next =>
    obtain ⟨σ', H', J, q⟩ := z
    exact ⟨V.non, H', J.os, J.bare, J.base, J.hok, rfl, q⟩
  | ret u =>
    obtain ⟨v, σ', H', J, rv, q⟩ := z
    exact ⟨v, H', J.os, J.bare, J.base, J.hok, rv, q⟩
  | brk => obtain ⟨_, _, _, q⟩ := z; exact q.elim
  | cont => obtain ⟨_, _, _, q⟩ := z; exact q.elim
end

section
variable {P : Program} {w : World} {K : PySem.W.Frag} {mg : Str → Option Value} {base : Heap} {k : Nat} {f : Addr} {fd : FuncData} {ps : List Str} {sp : Sp}
/-- a def that lets nothing out -/
theorem def_ok0 {x qual : Str} {st : Stmt} {N : List Str} (F : Fun K x qual st f fd) (S : FnScope N ps (defScope st))
    (len : ∀ vs H Q E, sp vs H Q E → vs.length = ps.length)
    (body : ∀ (cdv : Value) (A : Around) (outer : List Env) (s : Shared) (H : Hp) (vs : List V) (Q : VK) (E : XK),
      Room k (A.deeper (envOfC qual (defScope st) s.heap.objs.size f cdv)) → (A.deeper (envOfC qual (defScope st) s.heap.objs.size f cdv)).guards = some [] → sp vs H Q E →
      ∃ t, PSs (cxOf CX0 P w K mg base N qual (defScope st) f cdv A outer s H E).nox (defBody st) t ∧ t { nx := fun _ H' => Q .non H', rt := Q } (start N vs) H) :
    FnG P w K mg base CX0 (k + 1) f fd ps sp := by
  refine def_ok F S len fun cdv A outer s H vs Q E hr hg hsp => ?_
  obtain ⟨t, h, q⟩ := body cdv A outer s H vs Q E hr hg hsp
  exact ⟨t, h.nox, q⟩
end

section
variable {X : Cx} {C : CXT} {k : Nat} {f : Addr} {fd : FuncData} {ps ks : List Str} {sp : Sp} {E : XK} {x : Str} {p pos : Pos} {e : Expr} {es : List Expr} {kws : List Keyword} {t tk : TA}
theorem run_g {pins : List (Addr × Obj)} {σ : L2.St} {H : Hp} {s : Shared} {Q : VK} {args : Args} {us : List Value} {vs : List V} (F : FnG X.prog X.w X.K X.mg X.base C k f fd ps sp) (hr : Room k X.A) (hG : X.A.guards = some []) (hx : Passes C X E)
    (I : Inv X pins σ H s) (hb : BindsTo s fd args (ps.zip us)) (r : Vals vs us) (h : sp vs H Q E) :
    codeAny (model X.prog X.w) X.A (.call (.ref f) args) (fun r s' => match r with | .ok (.ret u) => EP X pins σ Q u s' | .ok _ => False | .error e => X.xe e s') s := by
  refine codeAny_mono (F.run X.A X.stack s H args us vs Q E hr hG I.env0 hb r h) ?_
  intro r s' hq
  cases r with
  | error e => exact hx pins σ H s e s' I hq
  | ok fl =>
    cases fl with
    | ret u => exact I.after hq
    | next => exact hq.elim
    | brk => exact hq.elim
    | cont => exact hq.elim
theorem mono_g {pins : List (Addr × Obj)} {σ : L2.St} {s : Shared} {Q : VK} {args : Args} (h : codeAny (model X.prog X.w) X.A (.call (.ref f) args) (fun r s' => match r with | .ok (.ret u) => EP X pins σ Q u s' | .ok _ => False | .error e => X.xe e s') s) :
    wpAny (model X.prog X.w) X.A (call (.ref f) args.pos args.kw) (EP X pins σ Q) X.xe s := by
  refine wpAny_call (codeAny_mono h ?_)
  intro r s' hq
  cases r with
  | error e => exact hq
  | ok fl =>
    cases fl with
    | ret u => exact hq
    | next => exact hq.elim
    | brk => exact hq.elim
    | cont => exact hq.elim
/-- f(a, ..) -/
theorem pe_cg (F : FnG X.prog X.w X.K X.mg X.base C k f fd ps sp) (hr : Room k X.A) (hG : X.A.guards = some []) (hg : Gl X x) (hm : X.mg x = some (.ref f)) (hk : PySem.W.keepIn X.K (.ref f) = true) (hb : Binds X.K fd ps []) (hx : Passes C X E)
    (ha : PA X (e :: es) t) (hdb : (x == ("__debug__" : Str)) = false := by decide) (he : starEach (e :: es) X.env = (false, eval e X.env) :: starEach es X.env := by rfl) (hpl : (backTo pos (starEach es X.env)).any (·.1) = false := by rfl) :
    PE X (.Call (.Name x p) (e :: es) [] pos) (tCall sp [] E t) := by
  refine ⟨fun pins s σ H Q I h => ?_⟩
  refine wpAny_Call_Name_kw (ld_glob I hg hm ?_ hdb)
  refine PySem.W.callWith_K (h₀ := X.base) I.ok.mod.kin hk (thn (ha.run pos pins s σ H _ I h) ?_) he hpl
  rintro us s1 ⟨vs, H1, I1, r, q⟩
  refine ⟨I1.kIn, ?_⟩
  have q' : sp vs H1 Q E := by rw [← List.append_nil vs]; exact q
  have hl : (us ++ []).length = ps.length := by rw [List.append_nil, ← r.length]; exact F.len _ _ _ _ q'
  have hb' := hb s1 us I1.kIn hl
  rw [List.append_nil] at hb'
  exact mono_g (args := ⟨us, []⟩) (run_g F hr hG hx I1 hb' r q')
/-- f(k = v, ..), keywords alone -/
theorem pe_cgk {g : List Value → List Value → List Value} {gV : List V → List V → List V} (F : FnG X.prog X.w X.K X.mg X.base C k f fd ps sp) (hr : Room k X.A) (hG : X.A.guards = some []) (hg : Gl X x) (hm : X.mg x = some (.ref f)) (hk : PySem.W.keepIn X.K (.ref f) = true) (hb : KBinds X.K fd ps ks g gV) (hx : Passes C X E)
    (hkw : PK X kws tk) (hall : (backToKw pos (keywordEach kws X.env)).all (·.1.isSome) = true := by rfl) (hks : (backToKw pos (keywordEach kws X.env)).filterMap (·.1) = ks := by rfl)
    (hdb : (x == ("__debug__" : Str)) = false := by decide)
    (hpl : ((backTo pos (starEach [] X.env)).any (·.1) || (backToKw pos (keywordEach kws X.env)).any (·.1.isNone)) = false := by rfl) :
    PE X (.Call (.Name x p) [] kws pos) (tCallK sp gV E tNil tk) := by
  refine ⟨fun pins s σ H Q I h => ?_⟩
  refine wpAny_Call_Name_kw (ld_glob I hg hm ?_ hdb)
  refine PySem.W.callWith_KW0 (h₀ := X.base) I.ok.mod.kin hk hall (thn (hkw.run pos pins s σ H _ I h) ?_) hpl
  rintro ws s2 ⟨zs, H2, I2, rz, q2⟩
  refine ⟨I2.kIn, ?_⟩
  rw [hks]
  have r2 := hb.rel .nil rz
  have hl : (g [] ws).length = ps.length := by rw [← r2.length]; exact F.len _ _ _ _ q2
  exact mono_g (args := ⟨[], ks.zip ws⟩) (run_g F hr hG hx I2 (hb.to s2 [] ws I2.kIn hl) r2 q2)

/-- a def of one parameter, called by its name -/
theorem kbind1 {K : PySem.W.Frag} {x qual : Str} {st : Stmt} {f : Addr} {fd : FuncData} {p : Str} (F : Fun K x qual st f fd)
    (h1 : ∀ (kV doc pm : Value) (an : Option Addr) (cdv ct v : Value), bindArgs (PySem.W.fnOf x qual (defArgs st) (defBody st) (defScope st) .none kV doc pm an cdv ct) ⟨[v], []⟩ = pure [(p, v)])
    (h2 : ∀ (kV doc pm : Value) (an : Option Addr) (cdv ct v : Value), bindArgs (PySem.W.fnOf x qual (defArgs st) (defBody st) (defScope st) .none kV doc pm an cdv ct) ⟨[], [(p, v)]⟩ = pure [(p, v)]) :
    KBinds K fd [p] [p] (fun us ws => us ++ ws) (fun us zs => us ++ zs) := by
  obtain ⟨oc, od, kV, doc, pm, an, cdv, ct, osl, rfl, lk, hcd⟩ := F.ex
  refine ⟨fun s us ws _ hl => ?_, fun r1 r2 => r1.append r2⟩
  have hl : (us ++ ws).length = 1 := hl
  match us, ws, hl with
  | [], [v], _ => exact .of_eq (h2 kV doc pm an cdv ct v)
  | [v], [], _ => exact .of_eq (h1 kV doc pm an cdv ct v)
  | [], [], hl => exact absurd hl (by decide)
  | [], x :: y :: r, hl => simp at hl
  | [x], y :: r, hl => simp at hl
  | x :: y :: r, ws, hl => simp at hl

/-! ### a word between what is reckoned and what follows: each way is joined -/
def tCutE (t : TE) : TE := fun σ H Q => ∃ φ : V → Hp → Prop, t σ H φ ∧ ∀ v H', φ v H' → Q v H'
def tCutT (t : TT) : TT := fun σ H Q => ∃ φ : Bool → Hp → Prop, t σ H φ ∧ ∀ b H', φ b H' → Q b H'
def tSeqC (t u : TS) : TS := fun D σ H => ∃ φ : L2.St → Hp → Prop, t { D with nx := φ } σ H ∧ ∀ σ' H', φ σ' H' → u D σ' H'
theorem pe_cut {te : TE} (h : PE X e te) : PE X e (tCutE te) := by
  refine ⟨fun pins s σ H Q I q => ?_⟩
  obtain ⟨φ, a, b⟩ := q
  refine thn (h.run pins s σ H φ I a) ?_
  rintro u s1 ⟨v, H1, I1, r, z⟩
  exact ⟨v, H1, I1, r, b v H1 z⟩
theorem pt_cut {tt : TT} (h : PT X e tt) : PT X e (tCutT tt) := by
  refine ⟨fun pins s σ H Q I q => ?_⟩
  obtain ⟨φ, a, b⟩ := q
  refine thn (h.run pins s σ H φ I a) ?_
  rintro u s1 ⟨H1, I1, z⟩
  exact ⟨H1, I1, b u H1 z⟩
theorem pss_join {st : Stmt} {rest : List Stmt} {ts us : TS} (h1 : PS X st ts) (h2 : PSs X rest us) : PSs X (st :: rest) (tSeqC ts us) := by
  refine ⟨fun pins s σ H D I h => ?_⟩
  obtain ⟨φ, a, b⟩ := h
  refine wpAny_execs_cons (thn (h1.run pins s σ H { D with nx := φ } I a) ?_)
  intro f s1 q
  cases f with
  | next =>
    obtain ⟨σ', H', I', z⟩ := q
    exact h2.run pins s1 σ' H' D I' (b σ' H' z)
  | ret v => exact q
  | brk => exact q
  | cont => exact q
end
end My

namespace My
open PySem PySem.Spec PyProof.Rows L2
/-- repr(x) of data -/
def rRep (K : PySem.W.Frag) : List V → Hp → VK → Prop := fun xs H Q => ∃ x d, xs = [x] ∧ Dp K H x d ∧ d.showable = true ∧ d.hasDict = false ∧ d.depth ≤ 60 ∧ d.shown.length ≤ sizeLine ∧
  (∀ i, d = .int i → i.natAbs.log2 < 1920) ∧ Q (.str d.shown) H
section
variable {X : Cx}
theorem call_rep (hG : X.A.guards = some []) (hu : X.A.units + 64 < cLine) : CallR X (.builtin "repr") (rRep X.K) := by
  intro pins s σ H xs us Q I r h
  obtain ⟨x, d, rfl, hd, hs, hn, hz, hl, hi, q⟩ := h
  obtain ⟨u, rfl, rx⟩ : ∃ u, us = [u] ∧ RelV x u := by
    cases r with
    | cons a b => cases b; exact ⟨_, rfl, a⟩
  have byRef : ∀ a, u = Value.ref a → wpAny (model X.prog X.w) X.A (call (.builtin "repr") [u]) (EP X pins σ Q) X.xe s := by
    rintro a rfl
    obtain ⟨as, rd⟩ := Dp.reads I d x _ hd rx
    refine repr_of_reads' rd hs (fun z => by rw [hn] at z; cases z) hG (by omega) (fun _ _ z => z) ?_ hl
    intro h' u tk hk
    exact ⟨.str _, H, I.kept hk, ⟨_, rfl⟩, q⟩
  cases hd with
  | non => cases rx; exact PySem.P.repr_of_none ⟨.str _, H, I.tok _, ⟨_, rfl⟩, q⟩
  | bl b =>
    cases rx
    refine PySem.P.repr_of_bool ⟨.str _, H, I.tok _, ⟨_, rfl⟩, ?_⟩
    cases b <;> exact q
  | int i =>
    obtain ⟨t, rfl⟩ := rx
    exact PySem.P.repr_of_int (hi i rfl) ⟨.str _, H, I.tok _, ⟨_, rfl⟩, q⟩
  | str y =>
    obtain ⟨t, rfl⟩ := rx
    exact PySem.P.repr_of_str ⟨.str _, H, I.tok _, ⟨_, rfl⟩, q⟩ hl
  | lst _ _ => cases rx; exact byRef _ rfl
  | tup _ _ => cases rx; exact byRef _ rfl
theorem call_repK {K : PySem.W.Frag} (hG : X.A.guards = some []) (hu : X.A.units + 64 < cLine) (hK : X.K = K := by rfl) : CallR X (.builtin "repr") (rRep K) := by
  rw [← hK]
  exact call_rep hG hu
end
end My

namespace My
open PySem PySem.Spec PyProof.Rows L2
/-- a constant of the module -/
theorem pe_gl {X : Cx} {x : Str} {pos : Pos} {v : V} (h : ∃ u, X.mg x = some u ∧ RelV v u) (hg : Gl X x := by rfl) (hd : (x == ("__debug__" : Str)) = false := by decide) : PE X (.Name x pos) (tC v) := by
  obtain ⟨u, hm, r⟩ := h
  exact pe_glob hg hm r hd
/-- a ** b of any sizes within the model's line -/
def CPowB (i j : Int) : Prop := 0 ≤ j ∧ (Builtin.Int.intBits i : Int) * j ≤ 2 ^ 27
theorem op_powB {X : Cx} : OpR X (binaryOp .Pow) (rI CPowB fun i j => .int (i ^ j.toNat)) := opI fun _ _ _ _ _ _ _ hc q => pow_int hc.1 hc.2 q
theorem bits_le {i : Int} {n : Nat} (h : i.natAbs < 2 ^ n) (h0 : 0 < n) : Builtin.Int.intBits i ≤ n := by
  unfold Builtin.Int.intBits
  split
  · omega
  · have := PySem.Flt.log2_lt_of h0 h
    omega
theorem powB {i j : Int} (n : Nat) (h : i.natAbs < 2 ^ n) (h0 : 0 < n) (hj : 0 ≤ j) (hb : (n : Int) * j ≤ 2 ^ 27) : CPowB i j := by
  refine ⟨hj, Int.le_trans (Int.mul_le_mul_of_nonneg_right ?_ hj) hb⟩
  have := bits_le h h0
  omega

/-! ### the draws -/
def But (p : Addr) (H H' : Hp) : Prop := ∀ b o, b ≠ p → H b = some o → H' b = some o
theorem But.refl (p : Addr) (H : Hp) : But p H H := fun _ _ _ h => h
theorem But.trans {p : Addr} {H H1 H2 : Hp} (a : But p H H1) (b : But p H1 H2) : But p H H2 := fun c o n h => b c o n (a c o n h)
theorem But.of {p : Addr} {H H' : Hp} (a : Same H H') : But p H H' := fun c o _ h => a c o h
theorem same_upd {H : Hp} {p : Addr} {o : HO} (h : H p = none) : Same H (upd H p o) := fun b x e => by
  rw [upd_ne (ne_of_none e h)]
  exact e
theorem But.upd {p : Addr} {H : Hp} {o : HO} : But p H (upd H p o) := fun b x n e => by
  rw [upd_ne n]
  exact e
theorem But.rd {p a : Addr} {H H' : Hp} {u : HO} (b : But p H H') (n : a ≠ p) (h : Rd H a u) : Rd H' a u := by
  rcases h with h | ⟨o, h⟩
  · exact .inl (b _ _ n h)
  · exact .inr ⟨o, b _ _ n h⟩
theorem But.seqL {K : PySem.W.Frag} {p a : Addr} {H H' : Hp} {xs : List V} (b : But p H H') (n : a ≠ p) (h : SqL K H a xs) : SqL K H' a xs := by
  rcases h with h | h
  · exact .inl (b.rd n h)
  · exact .inr h
theorem But.seqT {K : PySem.W.Frag} {p a : Addr} {H H' : Hp} {xs : List V} (b : But p H H') (n : a ≠ p) (h : SqT K H a xs) : SqT K H' a xs := by
  rcases h with h | h
  · exact .inl (b.rd n h)
  · exact .inr h
/-- the pot at p: what is left of the cell, the mixed number, how many were mixed: n at most -/
def PotAt (H : Hp) (p : Addr) (n : Nat) : Prop := ∃ own small cnt : Int, H p = some (.lst [.int own, .int small, .int cnt]) ∧
  0 ≤ own ∧ own < 2 ^ 1000 ∧ 0 ≤ small ∧ small < 2 ^ 61 ∧ 0 ≤ cnt ∧ cnt ≤ n
theorem PotAt.mono {H : Hp} {p : Addr} {n m : Nat} (h : PotAt H p n) (e : n ≤ m) : PotAt H p m := by
  obtain ⟨o, s, c, h1, h2, h3, h4, h5, h6, h7⟩ := h
  exact ⟨o, s, c, h1, h2, h3, h4, h5, h6, by omega⟩
theorem PotAt.same {H H' : Hp} {p : Addr} {n : Nat} (h : PotAt H p n) (e : Same H H') : PotAt H' p n := by
  obtain ⟨o, s, c, h1, h2⟩ := h
  exact ⟨o, s, c, e _ _ h1, h2⟩
/-- _law_take(pot, upto) -/
def spTake : Sp := fun vs H Q _ => ∃ (p : Addr) (upto : Int) (n : Nat), vs = [.ref p, .int upto] ∧ PotAt H p n ∧ n < 2 ^ 60 ∧ 0 < upto ∧ upto < 2 ^ 64 ∧
  ∀ i H', 0 ≤ i → i < upto → But p H H' → PotAt H' p (n + 1) → Q (.int i) H'
/-- _law_of(pot, some) -/
def spOf (K : PySem.W.Frag) : Sp := fun vs H Q _ => ∃ (p a : Addr) (xs : List V) (n : Nat), vs = [.ref p, .ref a] ∧ PotAt H p n ∧ n < 2 ^ 60 ∧ a ≠ p ∧ SqL K H a xs ∧ xs ≠ [] ∧ xs.length < 2 ^ 24 ∧
  ∀ x H', x ∈ xs → But p H H' → PotAt H' p (n + 1) → Q x H'
/-- _law_pot(script, place) -/
def spPot (K : PySem.W.Frag) : Sp := fun vs H Q _ => ∃ (a : Addr) (ns : List Int) (place : Int), vs = [.ref a, .int place] ∧ SqL K H a (ns.map V.int) ∧ ns.length ≤ 63 ∧
  (∀ z ∈ ns, Builtin.Int.intBits z ≤ 1048576) ∧ 0 ≤ place ∧ place ≤ 100 ∧ ∀ p H', Same H H' → H p = none → PotAt H' p 0 → Q (.ref p) H'
/-- _law_cells(script, most) -/
def spCells (K : PySem.W.Frag) : Sp := fun vs H Q _ => ∃ (a : Addr) (ns : List Int) (most : Int), vs = [.ref a, .int most] ∧ SqL K H a (ns.map V.int) ∧ ns.length ≤ 63 ∧ 0 ≤ most ∧ most ≤ 100 ∧
  ∀ (p : Addr) (H' : Hp) (m : Int), Same H H' → H p = none → 1 ≤ m → m ≤ 100 → H' p = some (.lst (rgV 0 m)) → Q (.ref p) H'
end My

/-! An own exception whose __init__ (its own class's or a base's) says super().__init__(value); self.value = value, over ValueError: it is made. -/
namespace PySem
namespace LabX
open PySem.W PySem.Calls PyProof.Rows PySem.HandSPX
/-! ### the text of __init__ -/
def iA (p1 p2 : Pos) : Arguments := { posonlyargs := [], args := [{ arg := "self", annotation := none, pos := p1 }, { arg := "value", annotation := none, pos := p2 }], vararg := none, kwonlyargs := [], kw_defaults := [], kwarg := none, defaults := [] }
def iB (p0 p1 p2 p3 p4 p5 q1 q2 q3 q4 : Pos) : List Stmt :=
  [.Expr (.Call (.Attribute (.Call (.Name "super" p0) [] [] p1) "__init__" p2) [.Name "value" p3] [] p4) p5, .Assign [.Attribute (.Name "self" q1) "value" q2] (.Name "value" q3) q4]
def iS : Scope := { kind := .function, names := [(PySem.Str.ofString "self", .local), (PySem.Str.ofString "value", .local), (PySem.Str.ofString "__class__", .free), (PySem.Str.ofString "super", .globalImplicit)], isGenerator := false, isCoroutine := false, more := [] }
/-- what the written part says of the base D that has the __init__ fI -/
structure BaseTxt (P : Program) (K : Frag) (D fI : Addr) : Prop where
  sup : nsIn K mainGlobals "super" = some none
  opq : nsIn K cStatics "thirdparty.any" = some none
  top : (P.main.scope.names.lookup ("super" : Str)).isSome = false
  fn : ∃ (oc : Value) (od : Option Addr) (doc pm : Value) (an : Option Addr) (cda cc : Addr) (ct : Value) (osl : Array (Option Value)) (p1 p2 a0 a1 a2 a3 a4 a5 q1 q2 q3 q4 : Pos),
    K.lookup fI = some ⟨oc, od, .func (ksFn "__init__" "LabError.__init__" (iA p1 p2) (iB a0 a1 a2 a3 a4 a5 q1 q2 q3 q4) iS .none .none doc pm an (.ref cda) ct cc), osl⟩ ∧ codeIn K (.ref cda) "LabError.__init__" = true ∧
    (∃ ccl cdd vs ccs file tf, K.lookup cda = some ⟨ccl, cdd, .fields vs, ccs⟩ ∧ vs[2]? = some (.str file tf) ∧ ((P.main.file : Str) == file) = true) ∧
    (∃ cl cld csl, K.lookup cc = some ⟨cl, cld, .cell (some (.ref D)), csl⟩) ∧ (a2.endLine == a4.line) = true
  cD : (clsIn K D).isSome = true
/-- what it says of the class C that is called -/
structure ClsTxt (K : Frag) (C D fI : Addr) : Prop where
  cls : ∃ nm q N bs bm sn sub ab col dd k0 k1 k2 k3 k5, K.lookup C = some (excClassObj nm q C N bs bm true sn sub ab col dd k0 k1 k2 k3 k5 "ValueError.__new__") ∧ refsVE bm = true ∧ ((Value.ref C :: bm).dropWhile (· != .ref D)).drop 1 = veTail
  sa : findIn K (.ref C) "__setattr__" = some (some (.builtin "object.__setattr__"))
  ga : findIn K (.ref C) "__getattribute__" = some (some (.builtin "BaseException.__getattribute__"))
  gg : findIn K (.ref C) "__getattr__" = some none
  noN : findIn K (.ref C) "value" = some none
  iC : findIn K (.ref C) "__init__" = some (some (.ref fI))
  tC : typeIn K (.ref fI) = some (.type "function")
  kC : keepIn K (.ref C) = true
  exC : subIn K (.ref C) (.type "BaseException") = some true
  exV : subIn K (.ref C) (.type "ValueError") = some true
  tyC : typeIn K (.ref C) = some (.type "type")
  hdC : hasDictIn K C = true
  mD : mroIn K C (.ref D) = some true
theorem one_size (v : Value) : [v].length ≤ sizeLine := by
  rw [sizeLine_eq]
  exact (by decide : 1 ≤ 16777216)
/-- what __init__ leaves of a fresh exception at x -/
structure InitEnd (h h' : Heap) (x C dx t1 : Addr) (v : Value) : Prop where
  keep : ∀ b o, b ≠ x → h.get? b = some o → h'.get? b = some o
  obj : h'.get? x = some { cls := .ref C, dict := some dx, data := .fields #[.ref t1, .none, .none, .none, .bool false, .none] }
  dbig : h.objs.size ≤ dx
  dne : dx ≠ x
  ns : h'.Ns1 dx (fun y => if y = "value" then some v else none)
/-- a made exception -/
structure OwnMade (h h' : Heap) (e C d : Addr) (v : Value) : Prop where
  keep : ∀ b o, h.get? b = some o → h'.get? b = some o
  new : h.objs.size ≤ e
  obj : ∃ oe vs, h'.get? e = some oe ∧ oe.cls = .ref C ∧ oe.dict = some d ∧ oe.data = .fields vs ∧ vs[1]? = some .none
  dbig : h.objs.size ≤ d
  dne : d ≠ e
  ns : h'.Ns1 d (fun y => if y = "value" then some v else none)
theorem along_VE (K : Frag) : alongIn K "__init__" veTail = some (some (.builtin "ValueError.__init__")) := by kernel_rfl
section
variable {prog : Program} {w : World} {A : Around} {E : Value → Shared → Prop} {h : Heap} {g : Array GenState} {d : Drawn} {t : Nat} {os : OsState}
/-- the method-wrapper of ValueError.__init__ called -/
theorem call_mw {nm q : Str} {C N : Addr} {bs bm : List Value} {hdct : Bool} {sn : List Str} {sub : List Value} {ab : Bool} {col : Option Bool} {dd : Option Addr} {k0 k1 k2 k3 k5 : Option Value}
    {u e t0 : Addr} {rest : List Value} {Q : Value → Shared → Prop}
    (hC : h.get? C = some (excClassObj nm q C N bs bm hdct sn sub ab col dd k0 k1 k2 k3 k5 "ValueError.__new__")) (he : h.get? e = some (excO C t0)) (hu : h.get? u = some (kxs_mw "ValueError.__init__" e)) (hrest : rest.length ≤ sizeLine)
    (hq : ∀ h' t1, (∀ b o, b ≠ e → h.get? b = some o → h'.get? b = some o) → h'.get? e = some (excO C t1) → Q .none ⟨h', g, d, t, os⟩) :
    wpAny (model prog w) A (PySem.call (.ref u) rest) Q E ⟨h, g, d, t, os⟩ := by
  have kind : ((Value.type "method-wrapper" == .type "method" || Value.type "method-wrapper" == .type "builtin_function_or_method") || Value.type "method-wrapper" == .type "method-wrapper") = true := by decide
  refine wpAny_call (codeAny_of_tree ?_)
  show wpAny _ A.in1 (callAny (Value.ref u) { pos := rest }) _ _ _
  simp only [callAny]; refine wpAny_bind (wpAny_load hu ?_); simp only [kxs_mw, kind, if_true]; refine W.KFB.if_so (by decide) ?_
  refine wpAny_bind (check_bound_init F.excBase_ValueError.toExcCallFacts hC he rfl ?_)
  refine wpAny_bind (wpAny_pure (wpAny_pure ?_))
  refine ⟨plainId_quiet F.excBase_ValueError.init.plain _, codeAny_builtin F.excBase_ValueError.initEntry ?_⟩
  exact exc_init_tree (cls := .ref C) (t0 := t0) (dv := none) (c2 := .none) (c3 := .none) (b4 := .bool false) he hrest fun h' k e' _ => hq h' _ k e'
end
theorem wpAt_meth {prog : Program} {w : World} {A : Around} {c : Code} {E : Value → Shared → Prop} {s : Shared} {env : Env} {o e : Expr} {name : Str} {apos pos : Pos} {Q : Value → Shared → Prop} (hline : (apos.endLine == pos.line) = true)
    (h : ∀ pl : Sem Bool, _root_.PySem.wpAt (model prog w) A c (attributeBase o name env (eval o env)) (fun ov s₁ => wpAny (model prog w) A (getMethod ov name pl) (fun fx s₂ => wpAny (model prog w) A (callWith pos fx.1 fx.2 (backTo pos (starEach [e] env)) []) Q E s₂) E s₁) E s)
    (hs : starEach [e] env = [(false, eval e env)]) :
    _root_.PySem.wpAt (model prog w) A c (eval (.Call (.Attribute o name apos) [e] [] pos) env) Q E s := by
  have hform : methodCallForm ([e].length + ([] : List Keyword).length) (backTo pos (starEach [e] env)) (backToKw pos (keywordEach [] env)) = true := by rw [hs]; rfl
  have here : methodCallPos true o env apos pos = pure pos := by simp [methodCallPos, hline]
  rw [arm_eval_Call]
  refine wpAt_bind (ks_wpAt_mono (h (do return (← importBound o env).getD true)) (fun ov s₁ h₁ => wpAt_of_wpAny ?_) fun _ _ x => x)
  refine wpAny_bind (wpAny_standAt ?_)
  unfold methodCall
  rw [hform]
  refine wpAny_bind (wpAny_holding (wpAny_mono h₁ (fun fx s₂ h₂ => ?_) fun _ _ x => x))
  exact wpAny_bind (wpAny_of_eq here h₂)
section
variable {prog : Program} {w : World} {A : Around} {E : Value → Shared → Prop} {R : Result → Shared → Prop} {s : Shared} {K : Frag} {mg mb : Str → Option Value} {C D fI : Addr}
theorem kept_but {K : Frag} {h h' : Heap} {x : Addr} (X : K.In h) (hx : K.lookup x = none) (k : ∀ b o, b ≠ x → h.get? b = some o → h'.get? b = some o) : K.In h' := fun a o e =>
  k a o (fun z => by rw [z, hx] at e; cases e) (X a o e)
theorem lab_init (B : BaseTxt prog K D fI) (T : ClsTxt K C D fI) {x t0 : Addr} {v : Value} (X : K.In s.heap) (hlim : s.heap.NoLimit) (hgl : s.heap.Ns mainGlobals mg) (hblt : s.heap.Ns builtinsNs mb) (hbb : ∀ x : Str, x ≠ "__name__" → mb x = bootBuiltins x)
    (hx : s.heap.get? x = some (excO C t0)) (hnx : K.lookup x = none) (hroom : A.depth < recursionLimit)
    (hq : ∀ h' tk dx t1, InitEnd s.heap h' x C dx t1 v → R (.ok (.ret .none)) { s with heap := h', toks := tk }) :
    codeAny (model prog w) A (.call (.ref fI) ⟨[.ref x, v], []⟩) R s := by
  obtain ⟨oc, od, doc, pm, an, cda, cc, ct, osl, p1, p2, a0, a1, a2, a3, a4, a5, q1, q2, q3, q4, ho, hcd, ⟨ccl, cdd, vs, ccs, file, tf, hco, hvs, hfile⟩, ⟨cl, cld, csl, hcell⟩, hline⟩ := B.fn
  obtain ⟨nm, q, N, bs, bm, sn, sub, ab, col, dd, k0, k1, k2, k3, k5, hC, hbm, hdrop⟩ := T.cls
  have hcl : clsIn K C = some { name := nm, bases := bs, mro := .ref C :: bm, ns := N, qualname := q, hasDict := true, slotNames := sn, subclasses := sub, abstract := ab, collection := col, hasDel := false } := by unfold clsIn; rw [hC] <;> rfl
  obtain ⟨cdD, hD⟩ := Option.isSome_iff_exists.mp B.cD
  refine ks_codeAny_call_defAt (fd := ksFn "__init__" "LabError.__init__" (iA p1 p2) (iB a0 a1 a2 a3 a4 a5 q1 q2 q3 q4) iS .none .none doc pm an (.ref cda) ct cc) (body := iB a0 a1 a2 a3 a4 a5 q1 q2 q3 q4)
    (binds := [("self", .ref x), ("value", v)]) hroom (X _ _ ho) rfl hlim (codeRec_of X hcd) rfl (BindsTo.of_eq (by first | rfl | with_unfolding_all rfl)) (show ∀ y ∈ iS.names, y.2 ≠ .cell by decide) (locs rfl) (fun h₁ hns hk₁ => ?_) rfl rfl rfl
  obtain ⟨hp, g, dr, tk, os⟩ := s
  have X₁ : K.In h₁ := X.keeps hk₁
  have hx₁ := hk₁ _ _ hx
  obtain ⟨oD, hD1, hD2⟩ : ∃ oD, h₁.get? D = some oD ∧ oD.data = .cls cdD := by
    unfold clsIn at hD
    split at hD
    · rename_i c d cd' sl ho
      cases hD
      exact ⟨_, X₁ _ _ ho, rfl⟩
    · cases hD
  have hxC : x ≠ C := fun z => by
    rw [z] at hnx
    rw [hC] at hnx
    cases hnx
  have mgs : mg "super" = none := mg_none_of X hgl B.sup
  refine ks_wpAt_execs_cons (ks_wpAt_Expr_any (wpAt_meth hline (fun pl => ?_) rfl))
  refine ks_wpAt_super_base (f := fI) (cc := cda) rfl rfl (by decide) rfl (X₁ _ _ ho) rfl rfl rfl (X₁ _ _ hco) rfl hvs hfile B.top ?_
  refine ks_loadName_global rfl rfl (loadGlobal_builtin (hgl.keeps hk₁) mgs (hblt.keeps hk₁) ((hbb _ (by decide +kernel)).trans rfl) ⟨rfl, ?_⟩)
  refine wpAny_loadName_free rfl rfl rfl ⟨_, X₁ _ _ hcell, rfl⟩ ?_
  refine wpAny_loadName_local (v := .ref x) rfl rfl hns (by first | rfl | with_unfolding_all rfl | kernel_rfl) ?_
  refine ks_wpAny_isType_cls hD1 hD2 ⟨rfl, ?_⟩
  refine ks_wpAny_call_super hD1 hD2 hx₁ rfl (fun c e => by cases e) (looks_mroIn X₁ T.mD) fun h₂ e₂ k₂ => ?_
  have X₂ : K.In h₂ := X₁.keeps k₂
  have hx₂ := k₂ _ _ hx₁
  have hI : Looks (model prog w) h₂ (isInstance (.ref x) (.type "ValueError")) true := (show PySem.W.InstAt h₂ x (excO C t0) C none from ⟨hx₂, rfl, rfl, trivial⟩).type.andThen (looks_subIn X₂ T.exV)
  refine kxs_getMethod kxs_ValueError e₂ (looks_opaque X₂ B.opq) (l₀ := .ref C :: bm) (fun A Q E s k q => wpAny_bind ((looks_clsIn X₂ hcl) A _ E s k (wpAny_pure q))) hdrop X₂ (along_VE K) hI hxC (by decide) ?_
  have k₃ : ∀ b o, h₂.get? b = some o → (h₂.push (kxs_mw "ValueError.__init__" x)).get? b = some o := fun b o e => Heap.get?_push_of_some _ e
  have hu : (h₂.push (kxs_mw "ValueError.__init__" x)).get? h₂.objs.size = some (kxs_mw "ValueError.__init__" x) := Heap.get?_push_at rfl rfl
  have X₃ : K.In (h₂.push (kxs_mw "ValueError.__init__" x)) := X₂.keeps k₃
  have hx₃ := k₃ _ _ hx₂
  have hns₃ := (hns.keeps k₂).keeps k₃
  refine kxs_callWith (i := "ValueError.__init__") (x := x) (u := h₂.objs.size) rfl ?_
  refine evalArgs_plain (Calls.spliced_cons ?_)
  refine wpAny_Name (wpAny_loadName_local (v := v) rfl rfl hns₃ (by first | rfl | with_unfolding_all rfl | kernel_rfl) ?_) (by decide)
  refine Calls.spliced_nil ⟨hu, ?_⟩
  refine call_mw (X₃ _ _ hC) hx₃ hu (one_size v) fun h₄ t1 k₄ hx₄ => ?_
  have X₄ : K.In h₄ := kept_but X₃ hnx k₄
  have xL : hp.objs.size ≠ x := Nat.ne_of_gt (Heap.lt_size hx)
  obtain ⟨oL, es, ep, hL, hr⟩ := hns₃
  have hns₄ : h₄.Ns hp.objs.size fun y => List.lookup y [(Str.ofString "self", Value.ref x), (Str.ofString "value", v)].reverse := ⟨oL, es, ep, k₄ _ _ xL hL, hr⟩
  refine wpAt_of_wpAny ?_
  show wpAny _ _ (execs _ _) _ _ _
  refine wpAny_execs_cons (plainObj_wpAny_Assign_Attribute ?_)
  refine wpAny_Name (wpAny_loadName_local (v := v) rfl rfl hns₄ (by first | rfl | with_unfolding_all rfl | kernel_rfl) ?_) (by decide)
  refine wpAny_Name (wpAny_loadName_local (v := .ref x) rfl rfl hns₄ (by first | rfl | with_unfolding_all rfl | kernel_rfl) ?_) (by decide)
  refine set_plain X₄ (ox := excO C t1) (od := none) ⟨hx₄, rfl, rfl, trivial⟩ T.sa ?_
  refine exc_osa X₄ hx₄ hcl (show refsVE (.ref C :: bm) = true from hbm) rfl T.noN (fun h₅ tk₅ dx k₅ dn dne hx₅ hn₅ => ?_)
  have old : ∀ b o, b ≠ x → hp.get? b = some o → h₅.get? b = some o := fun b o hb e => k₅ b o hb (k₄ b o hb (k₃ b o (k₂ b o (hk₁ b o e))))
  have big : hp.objs.size ≤ dx := by
    refine Nat.le_trans (Nat.le_of_lt (Heap.lt_size (k₄ _ _ xL hL))) dn
  exact wpAny_execs_nil (hq h₅ tk₅ dx t1 ⟨old, hx₅, big, dne, hn₅⟩)
theorem lab_made (B : BaseTxt prog K D fI) (T : ClsTxt K C D fI) {v : Value} (X : K.In s.heap) (hlim : s.heap.NoLimit) (hgl : s.heap.Ns mainGlobals mg) (hblt : s.heap.Ns builtinsNs mb) (hbb : ∀ x : Str, x ≠ "__name__" → mb x = bootBuiltins x) (hroom : A.depth + 1 < recursionLimit)
    (hq : ∀ h' tk e d, OwnMade s.heap h' e C d v → R (.ok (.ret (.ref e))) { s with heap := h', toks := tk }) :
    codeAny (model prog w) A (.call (.ref C) ⟨[v], []⟩) R s := by
  obtain ⟨nm, q, N, bs, bm, sn, sub, ab, col, dd, k0, k1, k2, k3, k5, hC, hbm, hdrop⟩ := T.cls
  obtain ⟨hp, g, dr, tk, os⟩ := s
  have k : ∀ b o, hp.get? b = some o → ((hp.push (kdv_tup [v])).push (excO C hp.objs.size)).get? b = some o := fun b o e => Heap.get?_push_of_some _ (Heap.get?_push_of_some _ e)
  have hget : ((hp.push (kdv_tup [v])).push (excO C hp.objs.size)).get? (hp.objs.size + 1) = some (excO C hp.objs.size) := by heap_get
  have hnx : K.lookup (hp.objs.size + 1) = none := by
    cases e : K.lookup (hp.objs.size + 1) with
    | none => rfl
    | some o =>
      have z : hp.get? (hp.objs.size + 1) = some o := X _ _ e
      exact absurd (Nat.lt_of_succ_lt (Heap.lt_size z)) (Nat.lt_irrefl _)
  refine call_own F.excBase_ValueError (fun X => refsVE_contains X bm hbm) (X _ _ hC) (looks_findIn X T.iC) (fun self => bind_fn X self T.tC) (one_size v) ?_
  refine lab_init (s := ⟨(hp.push (kdv_tup [v])).push (excO C hp.objs.size), g, dr, tk, os⟩) B T (X.keeps k) (hlim.keeps k) (hgl.keeps k) (hblt.keeps k) hbb hget hnx ?_ fun h' tk' dx t1 ⟨k', hx, dn, dne, hns⟩ => ?_
  · show A.depth + 1 < recursionLimit
    exact hroom
  · have old : ∀ b o, hp.get? b = some o → h'.get? b = some o := fun b o e => k' b o (Nat.ne_of_lt (Nat.lt_succ_of_lt (Heap.lt_size e))) (k b o e)
    have z : hp.objs.size + 1 + 1 ≤ dx := by
      first
        | (simpa only [Heap.size_push] using dn)
        | exact dn
    exact ⟨rfl, hq h' tk' (hp.objs.size + 1) dx ⟨old, Nat.le_succ _, ⟨_, _, hx, rfl, rfl, rfl, rfl⟩, Nat.le_trans (Nat.le_trans (Nat.le_succ _) (Nat.le_succ _)) z, dne, hns⟩⟩
end
end LabX
end PySem

/-! raise C(e); try .. except B as n, the exception held past the suite; its class asked; its value read. -/
namespace My
open PySem PySem.Spec PyProof.Rows L2 PySem.LabX
theorem relO_val {v : V} {v' : Value} (r : RelV v v') (f : Str) : RelO (List.lookup f [(("value" : Str), v)]) (if f = "value" then some v' else none) := by
  by_cases hw : f = "value"
  · subst hw
    rw [if_pos rfl]
    have q : List.lookup ("value" : Str) [(("value" : Str), v)] = some v := by simp [List.lookup]
    rw [q]
    exact r
  · rw [if_neg hw]
    have qw : (f == ("value" : Str)) = false := by simpa using hw
    have q2 : List.lookup f [(("value" : Str), v)] = none := by simp [List.lookup, qw]
    rw [q2]
    trivial
/-- an exception of class cls with the dict d lies at a -/
def exT (a : Addr) (cls : Value) (d : Option Addr) : HO := .ext fun h => ∃ o vs, h.get? a = some o ∧ Zc cls d o ∧ o.data = .fields vs
theorem exT_ok {P : Program} {w : World} {H : Hp} {h : Heap} {a : Addr} {cls : Value} {d : Option Addr} {o : Obj} {vs : Array Value} (e : h.get? a = some o) (z : Zc cls d o) (hd : o.data = .fields vs) : ObjOk P w H h a (exT a cls d) :=
  ⟨⟨o, vs, e, z, hd⟩, ⟨_, e⟩, fun h1 h2 ⟨o, vs, e, z, hd⟩ k => ⟨o, vs, k _ e, z, hd⟩⟩
theorem exT_at {P : Program} {w : World} {H : Hp} {h : Heap} {a : Addr} {cls : Value} {d : Option Addr} (hok : HOk P w H h) (e : H a = some (exT a cls d)) : ∃ o vs, h.get? a = some o ∧ Zc cls d o ∧ o.data = .fields vs := by
  have x : ObjOk P w H h a (.ext fun h => ∃ o vs, h.get? a = some o ∧ Zc cls d o ∧ o.data = .fields vs) := hok a _ e
  exact x.1
section
variable {X : Cx} {C D fI : Addr} {x : Str}
/-- C(e) -/
def tMkLab (C : Addr) (ta : TA) : L2.St → Hp → XK → Prop := fun σ H Q => ta σ H fun vs H1 => ∃ v, vs = [v] ∧ ∀ d, H1 d = none → Q (.ref C) (some d) (upd H1 d (.xd [(("value" : Str), v)]))
theorem pmk_lab {a : Expr} {ta : TA} {p pos : Pos} {k : Nat} (B : BaseTxt X.prog X.K D fI) (T : ClsTxt X.K C D fI) (gC : X.mg x = some (.ref C)) (hr : Room k X.A) (ha : PA X [a] ta) (hg : Gl X x := by rfl)
    (hdb : (x == ("__debug__" : Str)) = false := by decide)
    (h1 : starEach (a :: []) X.env = (false, eval a X.env) :: starEach [] X.env := by rfl) (h2 : (backTo pos (starEach [] X.env)).any (·.1) = false := by rfl) :
    PMk X (.Call (.Name x p) [a] [] pos) (tMkLab C ta) := by
  intro pins s σ H Q I h
  refine wpAny_Call_Name_kw (ld_glob I hg gC ?_ hdb)
  refine PySem.W.callWith_K (h₀ := X.base) I.ok.mod.kin T.kC (thn (ha.run pos pins s σ H _ I h) fun us s1 hh => ?_) h1 h2
  obtain ⟨vs, H1, I1, r1, v, ev, q1⟩ := hh
  subst ev
  refine ⟨I1.kIn, ?_⟩
  cases r1 with
  | cons rv rn =>
    rename_i v' us'
    cases rn
    show wpAny _ _ (call (.ref C) [v']) _ _ _
    have hlim := I1.nolimit
    have hgl : s1.heap.Ns mainGlobals X.mg := I1.mod.glob.keeps I1.bk
    obtain ⟨mb, hb, hbb⟩ := I1.mod.blt
    have hb' : s1.heap.Ns builtinsNs mb := hb.keeps I1.bk
    obtain ⟨hp, g, dr, tk, os⟩ := s1
    refine wpAny_call (lab_made B T I1.kIn hlim hgl hb' hbb (by have := hr.dp; omega) fun h' tk' e d M => ?_)
    show MkP X pins σ Q (.ref e) ⟨h', g, dr, tk', os⟩
    obtain ⟨oe, fv, hoe, hc, hd, hdat, h1⟩ := M.obj
    have hns := M.ns
    obtain ⟨G', g1, g2⟩ := restrict h' fun b => decide (b ≠ e)
    have gk : ∀ b, b ≠ e → G'.get? b = h'.get? b := fun b hb => g1 b (decide_eq_true hb)
    have ge : G'.get? e = none := g2 e (by simp)
    have old : ∀ b o, hp.get? b = some o → G'.get? b = some o := fun b o q => (gk b (Nat.ne_of_lt (Nat.lt_of_lt_of_le (Heap.lt_size q) M.new))).trans (M.keep b o q)
    have ob : ObjOk X.prog X.w (upd H1 d (.xd [(("value" : Str), v)])) G' d (.xd [(("value" : Str), v)]) :=
      ⟨_, hns.at (fun o q => (gk d M.dne).trans q), fun f => relO_val rv f⟩
    have J : Inv X pins σ (upd H1 d (.xd [(("value" : Str), v)])) ⟨G', g, dr, tk', os⟩ := I1.laid (t' := tk') old M.dbig ob
    refine ⟨e, oe, fv, ⟨G', g, dr, tk', os⟩, _, .ref C, some d, rfl, J, fun b o q => ?_, ge, hoe, ⟨hc, hd⟩, hdat, h1, ?_, rfl, I1.bare, raises_own T.exC T.tyC, q1 d (I1.hok.fresh M.dbig)⟩
    · by_cases hb : b = e
      · have q' : G'.get? b = some o := q
        rw [hb, ge] at q'; cases q'
      · exact (gk b hb).symm.trans q
    · rw [upd_ne (Ne.symm M.dne)]
      exact I1.hok.fresh M.new
/-- raise C(e) -/
def tRaiseLab (C : Addr) (W : WX) (ta : TA) : TS := fun _ σ H => tMkLab C ta σ H fun cls d H' => W cls d σ H'
theorem ps_raiseLab {a : Expr} {ta : TA} {W : WX} {p pos pos2 : Pos} {k : Nat} (hc : X.calm = true) (B : BaseTxt X.prog X.K D fI) (T : ClsTxt X.K C D fI) (gC : X.mg x = some (.ref C)) (hr : Room k X.A) (tk : Takes X W) (ha : PA X [a] ta) (hg : Gl X x := by rfl)
    (hdb : (x == ("__debug__" : Str)) = false := by decide)
    (h1 : starEach (a :: []) X.env = (false, eval a X.env) :: starEach [] X.env := by rfl) (h2 : (backTo pos (starEach [] X.env)).any (·.1) = false := by rfl) :
    PS X (.Raise (some (.Call (.Name x p) [a] [] pos)) none pos2) (tRaiseLab C W ta) := ps_raise hc tk (pmk_lab B T gC hr ha hg hdb h1 h2)
end
/-! ### try .. except B as n: the exception is held past the suite -/
/-- the ends of a suite behind which the name's slot is empty -/
def Ends.gone (D : Ends) (i : Nat) : Ends := { nx := fun σ H => D.nx (σ.set i none) H, rt := D.rt, bk := fun σ H => D.bk (σ.set i none) H, ct := fun σ H => D.ct (σ.set i none) H }
/-- what such a clause makes of an exception: its suite, the exception tracked; or it goes on -/
def wHold (K : PySem.W.Frag) (c : Value) (i : Nat) (ts : TS) (Wout : WX) (D : Ends) : WX := fun cls d σ H =>
  ∃ b, PySem.W.exmOne K cls c = some b ∧ (b = true → ∀ a, H a = none → ts (Ends.gone D i) (σ.set i (some (.ref a))) (upd H a (exT a cls d))) ∧ (b = false → Wout cls d σ H)
/-- the suite's context: the exception a is in hand, nothing is pinned -/
abbrev cxIn (X : Cx) (a : Addr) (pn : List (Addr × Obj)) : Cx := { X with A := X.A.mark (some (.ref a)), calm := false, pn := pn, xe := fun _ _ => False }
section
variable {X : Cx} {pins : List (Addr × Obj)} {σ : L2.St} {H : Hp} {s : Shared} {a : Addr} {cls : Value} {d : Option Addr}
theorem inv_in (I : Inv X pins σ H s) : Inv (cxIn X a (X.pn ++ pins)) [] σ H s := by
  refine { I with ok := I.ok.suite a _, pin := fun p hp => I.pin p ?_ }
  simpa using hp
theorem inv_out {qs : List (Addr × Obj)} (ok : X.Ok) (I : Inv (cxIn X a (X.pn ++ pins)) qs σ H s) : Inv X pins σ H s :=
  { I with ok := ok, pin := fun p hp => I.pin p (List.mem_append.mpr (.inl hp)) }
/-- an address that the frame's own objects do not know -/
structure Strange (X : Cx) (pins : List (Addr × Obj)) (a : Addr) : Prop where
  entry : ∀ o, X.s_0.heap.get? a ≠ some o
  frame : a ≠ X.env.locals
  cells : ∀ x c, X.env.cells.lookup x = some c → c ≠ a
  pinned : ∀ p ∈ X.pn ++ pins, p.1 ≠ a
/-- it is tracked from here on -/
theorem inv_hold {oe : Obj} {vs : Array Value} (I : Inv X pins σ H s) (na : H a = none) (S : Strange X pins a) (e : s.heap.get? a = some oe) (z : Zc cls d oe) (hd : oe.data = .fields vs) : Inv X pins σ (upd H a (exT a cls d)) s := by
  have other : ∀ {b : Addr} {o : HO}, H b = some o → b ≠ a := fun q y => by rw [y, na] at q; cases q
  have u := I.base
  exact {
    ok := I.ok, os := I.os, bare := I.bare, loc := I.loc, cell := I.cell, len := I.len
    base := { u with
      free := fun b o q n hx => by rw [upd_ne (fun y => S.entry o (by rw [← y]; exact q))]; exact u.free b o q n hx
      tups := fun b xs q => by rw [upd_ne (other (u.tups b xs q))]; exact u.tups b xs q
      frzs := fun b o v q => by rw [upd_ne (other (u.frzs b o v q))]; exact u.frzs b o v q
      tbls := fun b ps q => by
        obtain ⟨more, y⟩ := u.tbls b ps q
        exact ⟨more, by rw [upd_ne (other y)]; exact y⟩ }
    free := by rw [upd_ne (Ne.symm S.frame)]; exact I.free
    freeC := fun x c q => by rw [upd_ne (S.cells x c q)]; exact I.freeC x c q
    pin := fun p hp => by
      obtain ⟨e1, n1, r⟩ := I.pin p hp
      exact ⟨e1, by rw [upd_ne (S.pinned p hp)]; exact n1, r⟩
    hok := fun b ob q => by
      by_cases hb : b = a
      · subst hb
        rw [upd_same] at q
        cases q
        exact exT_ok e z hd
      · rw [upd_ne hb] at q
        exact (I.hok b ob q).stay (fun _ _ _ y => y) (fun _ y => by rw [upd_ne (other y)]; exact y) fun _ _ y => by rw [upd_ne (other y)]; exact y }
/-- what is known when an exception of the body has come down -/
structure Down (X : Cx) (pins : List (Addr × Obj)) (σ : L2.St) (H : Hp) (s : Shared) (B : Heap) (a : Addr) (cls : Value) (d : Option Addr) (h : Heap) : Prop where
  fly : HandSPX.FlyingZ B (X.env :: X.outer) a (Zc cls d) h
  inv : ∀ h', HandSPX.FlyingZ B (X.env :: X.outer) a (Zc cls d) h' → h.UpToSlots h' → Inv X pins σ H { s with heap := h' }
  new : Strange X pins a
  off : H a = none
  on : ∀ {W : WX} {h' : Heap}, HandSPX.HeldZ B (X.env :: X.outer) a (Zc cls d) X.env.locals h' → h.UpToSlots h' → W cls d σ H → XE X W (.ref a) { s with heap := h' }
theorem come_down {W : WX} {u : Value} {xe E : Value → Shared → Prop} {Q : Unit → Shared → Prop} (hs : X.stack = X.env :: X.outer) (hf : X.env.frame = some X.env.locals) (hex : X.ex = []) (ok : X.Ok) (x : XE (X.tr (X.pn ++ pins) xe) W u s)
    (k : ∀ a B σ H cls d h, u = .ref a → W cls d σ H → Down X pins σ H s B a cls d h → Q () { s with heap := h }) :
    wpAny (model X.prog X.w) X.A (noteFrame u X.env) (fun _ s2 => wpAny (model X.prog X.w) X.A (setFlight u none) Q E s2) E s := by
  obtain ⟨a, B, sI, qs, σ, H, cls, d, rfl, J, nb, up, sky, na, os, ag, w⟩ := x
  have J : Inv X pins σ H sI := J.ofTry ok
  have sky : Sky B (X.env :: X.outer) a (Zc cls d) X.env.locals s.heap := hs ▸ sky
  refine Sky.land Zc.steady (by rw [ok.frames, hs]) hf sky fun h fl upl => ?_
  obtain ⟨oe, vs, e, z, hd⟩ := fl.there
  have nfr : a ∉ frs (X.env :: X.outer) := fun hm => by
    obtain ⟨_, o', e', hnf⟩ := fl.2.2.1.mem hm
    rw [e] at e'
    cases e'
    exact hnf _ hd
  have nI : ∀ o, sI.heap.get? a ≠ some o := fun o q => by
    have y := nb a o q (hs ▸ nfr)
    rw [fl.2.1] at y
    cases y
  refine k a B σ H cls d h rfl w ⟨fl, fun h' f' u' => J.landed nb f'.1 ((up.trans upl).trans u') os ag, ⟨fun o q => ?_, fun y => ?_, fun x c q y => ?_, fun p hp y => ?_⟩, na, fun {W' h'} hh u' w' => ?_⟩
  · obtain ⟨o', y⟩ := J.base.there a o q (by rw [hex]; exact fun z => nomatch z)
    exact nI o' y
  · exact nfr (List.mem_filterMap.mpr ⟨X.env, .head _, y ▸ hf⟩)
  · obtain ⟨v, o, z, _⟩ := J.cell x c q
    exact nI _ (y ▸ z)
  · exact nI _ (y ▸ (J.pin p hp).1)
  · exact ⟨a, B, sI, pins, σ, H, cls, d, rfl, J, nb, (up.trans upl).trans u', .inr (.inr (hs ▸ hh)), na, os, ag, w'⟩
end
section
variable {X : Cx} {x n : Str} {c : Value} {i : Nat} {body suite : List Stmt} {b0 : Stmt} {np pos pos' : Pos} {tb : WX → TS} {ts : TS} {Wout : WX}
theorem ps_try_hold (hs : X.stack = X.env :: X.outer) (hf : X.env.frame = some X.env.locals) (hex : X.ex = []) (hN : X.N.Nodup) (hi : X.N[i]? = some n) (hln : X.env.kindOf n = some .local) (hc : Names X x c) (tk : Takes X Wout)
    (hb : ∀ (W : WX) (pn : List (Addr × Obj)) (xe : Value → Shared → Prop), Takes (X.tr pn xe) W →
      PassesOwn (model X.prog X.w) X.A X.env xe → PSs (X.tr pn xe) body (tb W))
    (hsu : ∀ (a : Addr) (pn : List (Addr × Obj)), PSs (cxIn X a pn) (b0 :: suite) ts) :
    PS X (.Try body [.ExceptHandler (some (.Name x np)) (some n) (b0 :: suite) pos'] [] [] pos) (fun D σ H => tb (wHold X.K c i ts Wout D) D σ H) := by
  constructor
  intro pins st σ0 H0 D I0 h
  have ok := I0.ok
  refine wpAny_Try_except (wpAny_mono ((hb (wHold X.K c i ts Wout D) (X.pn ++ pins) _ (fun u s' xx => ?down) PassesOwn.looking).run [] st σ0 H0 D (I0.toTry _) h) (fun f s1 q => ?thru) (fun _ _ z => z))
  case thru =>
    cases f with
    | next => obtain ⟨_, _, J, q⟩ := q; exact wpAny_execs_nil ⟨_, _, J.ofTry ok, q⟩
    | brk => obtain ⟨_, _, J, q⟩ := q; exact ⟨_, _, J.ofTry ok, q⟩
    | cont => obtain ⟨_, _, J, q⟩ := q; exact ⟨_, _, J.ofTry ok, q⟩
    | ret u => obtain ⟨_, _, _, J, r, q⟩ := q; exact ⟨_, _, _, J.ofTry ok, r, q⟩
  case down =>
    refine come_down hs hf hex ok xx fun a B σ H cls d h eu w N => ?_
    subst eu
    obtain ⟨b, isOne, hyes, hno⟩ := w
    obtain ⟨oe, vs, e, z, hd⟩ := N.fly.there
    have J := N.inv h N.fly (Heap.UpToSlots.refl _)
    refine wpAny_handleBy_cons (codeAny_handlers_test ?_) (fun q => by cases q)
    have LM := PySem.W.exm_one (M := model X.prog X.w) J.kIn (fun A Q E s k q => wpAny_typeOf_ref (k _ _ e) (by rw [z.1]; exact q)) isOne
    have named : ∀ {Q E : Value → Shared → Prop}, Q c { s' with heap := h } → wpAny (model X.prog X.w) (X.A.mark (some (.ref a))) (eval (.Name x np) X.env) Q E { s' with heap := h } := fun {Q E} q => by
      obtain ⟨g1, g2, g3 | ⟨g3, g4, g5⟩⟩ := hc
      · exact ld_glob (inv_in (a := a) J) g1 g3 q g2
      · exact ld_blt (inv_in (a := a) J) g1 g3 g4 q g5 g2
    refine named (LM.here ?_)
    cases b with
    | false =>
      show wpAny (model X.prog X.w) X.A (handleBy (.ref a) X.env ([] : List ExceptHandler)) _ _ _
      obtain ⟨_, _, _, oe', vs', T, _, _, e', _, hd', h1, _⟩ := id N.fly
      have up_ : wpAny (model X.prog X.w) X.A (setFlight (.ref a) (some X.env.locals)) (fun _ s4 => wpAny (model X.prog X.w) X.A (throw (.ref a) : Sem Flow) (SP X pins D) X.xe s4) X.xe { s' with heap := h } :=
        HandSPX.setFlight_upZ N.fly fun h4 hh u4 => wpAny_throw (tk _ _ (N.on hh u4 (hno rfl)))
      rw [← hf] at up_
      refine wpAny_handleBy_nil ?_
      unfold PySem.passOn
      refine wpAny_bind (wpAny_field e' hd' h1 ?_); rw [if_neg (by simp)]
      first | exact wpAny_bind (wpAny_pure (wpAny_bind up_)) | exact wpAny_bind up_
    | true =>
      refine codeAny_handlers_suite_as (HandSPX.lands_againZ N.fly fun h4 fl4 u4 => ?_)
      obtain ⟨oe4, vs4, e4, z4, d4⟩ := fl4.there
      have J5 := inv_hold (N.inv h4 fl4 u4) N.off N.new e4 z4 d4
      refine store_ok (X := cxIn X a (X.pn ++ pins)) (v := .ref a) (inv_in (a := a) J5) hN hi (.inl hln) rfl (fun s5 S5 => ?_) (.inr hln)
      refine wpAny_mono ((hsu a (X.pn ++ pins)).run [] s5 _ _ (Ends.gone D i) S5 (hyes rfl a N.off)) (fun f s6 q6 => ?_) (fun _ _ q => False.elim q)
      have fin : ∀ {σ6 : L2.St} {H6 : Hp} {R : Shared → Prop}, Inv (cxIn X a (X.pn ++ pins)) [] σ6 H6 s6 → (∀ s7, Inv X pins (σ6.set i none) H6 s7 → R s7) →
          wpAny (model X.prog X.w) X.A (do bindName X.env n .none; unbindBehindTheSuite X.env n pos') (fun _ s7 => R s7) X.xe s6 := fun S6 k => gone_ok (inv_out ok S6) hN hi hln k
      cases f with
      | next => obtain ⟨_, _, S6, q⟩ := q6; exact fin S6 fun _ J7 => ⟨_, _, J7, q⟩
      | brk => obtain ⟨_, _, S6, q⟩ := q6; exact fin S6 fun _ J7 => ⟨_, _, J7, q⟩
      | cont => obtain ⟨_, _, S6, q⟩ := q6; exact fin S6 fun _ J7 => ⟨_, _, J7, q⟩
      | ret u => obtain ⟨_, _, _, S6, r, q⟩ := q6; exact fin S6 fun _ J7 => ⟨_, _, _, J7, r, q⟩
end
end My

/-! A held exception: what isinstance says of it, its value. -/
namespace PySem.W
open PySem PySem.Spec PySem.Calls PyProof.Rows
/-- isinstance answers yes by the type alone -/
theorem says_yes {K : Frag} {x t c : Value} {φ : Heap → Prop} (ty : ∀ (M : Model) (h : Heap), φ h → Looks M h (typeOf x) t) (e : kitOne K t c = some true) : Answers (fun s => K.In s.heap ∧ φ s.heap) x c true := by
  intro dep tk prog w A R s hs
  obtain ⟨h0, g, d, tt, os⟩ := s
  obtain ⟨⟨X, p⟩, hq⟩ := hs
  have L := ty (model prog w) h0 p
  unfold Builtin.«isinstance.nested»
  refine wpAny_bind (L.at ?_)
  unfold kitOne at e
  by_cases q : (t == c) = true
  · rw [if_pos q]
    first | ((repeat lk); exact hq tt) | exact wpAny_bind (wpAny_rule (hq tt)) | exact wpAny_bind (wpAny_rule (wpAny_pure (hq tt)))
  · rw [if_neg q] at e ⊢
    obtain ⟨m1, m2, m3⟩ := kit_cls (M := model prog w) X e
    refine wpAny_bind (m1.at ?_); rw [if_pos (by decide)]; k_delta "plainIsInstance"
    refine wpAny_bind (wpAny_bind (m2.at ?_)); simp only [Bool.not_true, Bool.false_eq_true, if_false]
    refine wpAny_bind ((L.andThen m3 : Looks (model prog w) h0 (isInstance x c) true).at ?_)
    first
      | exact wpAny_pure (wpAny_pure (hq tt)) | exact wpAny_pure (hq tt)
      | (simp only [if_true]; exact wpAny_pure (wpAny_pure (hq tt)))
      | (simp only [if_true]; first | exact wpAny_pure (hq tt) | exact wpAny_bind (wpAny_pure (wpAny_pure (hq tt))))
end PySem.W
namespace My
open PySem PySem.Spec PyProof.Rows L2
/-- isinstance(e, c), e held, of a class below c -/
def rIsHeld (K : PySem.W.Frag) : List V → Hp → VK → Prop := fun xs H Q => ∃ (a : Addr) (cls : Value) (d : Option Addr) (c : V) (cv : Value), xs = [.ref a, c] ∧ H a = some (exT a cls d) ∧ (∀ u, RelV c u → u = cv) ∧ PySem.W.kitOne K cls cv = some true ∧ Q (.bl true) H
theorem call_isHeld {X : Cx} : CallR X (.builtin "isinstance") (rIsHeld X.K) := by
  intro pins s σ H xs us Q I r h
  obtain ⟨a, cls, d, c, cv, rfl, ha, hcv, e, q⟩ := h
  cases r with
  | cons rx rr =>
    cases rr with
    | cons rt rr =>
      cases rr
      cases rx
      obtain rfl := hcv _ rt
      obtain ⟨o, vs, e1, z, _⟩ := exT_at I.hok ha
      have ty : ∀ (M : Model) (h : Heap), (∃ o, h.get? a = some o ∧ o.cls = cls) → PySem.W.Looks M h (typeOf (.ref a)) cls := fun M h ⟨o, e, ec⟩ A Q E s k q => wpAny_typeOf_ref (k _ _ e) (by rw [ec]; exact q)
      refine call_isinstance (S := fun _ R s => (X.K.In s.heap ∧ ∃ o, s.heap.get? a = some o ∧ o.cls = cls) ∧ ∀ tk, R (.ok (.ret (.bool true))) { s with toks := tk })
        (fun prog w A R s hs => isinstance_outer (PySem.W.says_yes ty e 0 _ prog w A R s hs) (fun z => nomatch z)) ⟨⟨I.kIn, o, e1, z.1⟩, fun tk => ⟨.bl true, H, I.kept (t' := tk) fun _ _ z => z, rfl, q⟩⟩
/-- e.n, e held -/
def tHeldAt (K : PySem.W.Frag) (n : Str) (te : TE) : TE := fun σ H Q => te σ H fun x H1 => ∃ (a C dd : Addr) (fs : List (Str × V)) (v : V), x = .ref a ∧ H1 a = some (exT a (.ref C) (some dd)) ∧ XfC K C ∧ PySem.W.findIn K (.ref C) n = some none ∧ H1 dd = some (.xd fs) ∧ fs.lookup n = some v ∧ Q v H1
theorem pe_heldAt {X : Cx} {e : Expr} {te : TE} {pos : Pos} {n : Str} (he : PE X e te) (hb : attributeBase e n X.env (eval e X.env) = eval e X.env := by rfl) : PE X (.Attribute e n pos) (tHeldAt X.K n te) := by
  constructor
  intro pins s σ H Q I h
  refine attr_of hb (thn (he.run pins s σ H _ I h) fun u s1 ⟨x, H1, I1, rx, a, C, dd, fs, v, ex, ea, T, hno, ed, l, q⟩ => ?_)
  subst ex
  obtain rfl : u = Value.ref a := rx
  obtain ⟨o, vs, e1, z, hd⟩ := exT_at I1.hok ea
  obtain ⟨mA, hns, hr⟩ := (show ObjOk X.prog X.w H1 s1.heap dd (.xd fs) from I1.hok dd _ ed)
  obtain ⟨od, ho, at_⟩ := lookIn_ns hns
  have hn := hr n
  rw [l] at hn
  obtain ⟨u, hu, ru⟩ := RelO.some_of hn
  have J : PySem.W.InstAt s1.heap a o C (some od) := ⟨e1, z.1, by unfold PySem.W.notCls; rw [hd] <;> rfl, by rw [z.2]; exact ho⟩
  have f := PySem.W.findObj_own T.hdC hno rfl (show PySem.W.lookIn n od = some (some u) by rw [at_, hu])
  exact HandSPX.exc_get I1.kIn J T.ga T.gg T.exC f (handed_of ru) ⟨v, H1, I1.tok _, ru, q⟩
end My

/-! Lambdas as values: made, handed on through several defs, called there. What a lambda captured is frozen while its maker waits. -/
namespace My
open PySem PySem.Spec PyProof.Rows L2 LamX
/-- an object that is known and stays as it is -/
abbrev frzP (o : Obj) : HO := .frz o (.ext fun _ => True)
theorem frzP_ok {P : Program} {w : World} {H : Hp} {h : Heap} {a : Addr} {o : Obj} (e : h.get? a = some o) : ObjOk P w H h a (frzP o) := ⟨e, trivial, ⟨o, e⟩, fun _ _ _ _ => trivial⟩
theorem frzP_at {P : Program} {w : World} {H : Hp} {h : Heap} {a : Addr} {o : Obj} (x : HOk P w H h) (e : H a = some (frzP o)) : h.get? a = some o := (x a _ e).1
def Frozen (S : List Addr) (H : Hp) : Prop := ∀ b ∈ S, ∃ o, H b = some (frzP o)
/-- forgotten: those of S -/
def thaw (S : List Addr) (H : Hp) : Hp := fun b => if b ∈ S then none else H b
/-- known again -/
def refrz (S : List Addr) (H H' : Hp) : Hp := fun b => if b ∈ S then H b else H' b
theorem thaw_in {S : List Addr} {H : Hp} {b : Addr} (h : b ∈ S) : thaw S H b = none := if_pos h
theorem thaw_out {S : List Addr} {H : Hp} {b : Addr} (h : b ∉ S) : thaw S H b = H b := if_neg h
theorem refrz_in {S : List Addr} {H H' : Hp} {b : Addr} (h : b ∈ S) : refrz S H H' b = H b := if_pos h
theorem refrz_out {S : List Addr} {H H' : Hp} {b : Addr} (h : b ∉ S) : refrz S H H' b = H' b := if_neg h
theorem thaw_none {S : List Addr} {H : Hp} {b : Addr} (h : H b = none) : thaw S H b = none := by
  by_cases hb : b ∈ S
  · exact thaw_in hb
  · rw [thaw_out hb]; exact h
theorem thaw_some {S : List Addr} {H : Hp} {b : Addr} {o : HO} (h : thaw S H b = some o) : b ∉ S ∧ H b = some o := by
  by_cases hb : b ∈ S
  · rw [thaw_in hb] at h; cases h
  · rw [thaw_out hb] at h; exact ⟨hb, h⟩
section
variable {P : Program} {w : World} {S : List Addr} {H H1 H' : Hp} {h h' B : Heap} {fs : List Addr}
theorem Frozen.not {b : Addr} {o : HO} (F : Frozen S H) (e : H b = some o) (n : ∀ ob, o ≠ frzP ob) : b ∉ S := fun hb => by
  obtain ⟨ob, q⟩ := F b hb
  rw [e] at q
  exact n ob (Option.some.inj q)
theorem hok_thaw (F : Frozen S H) (x : HOk P w H h) : HOk P w (thaw S H) h := fun b o e => by
  obtain ⟨hb, e⟩ := thaw_some e
  exact (x b o e).stay (fun _ _ _ q => q) (fun c q => by rw [thaw_out (F.not q fun _ z => by cases z)]; exact q) fun c xs q => by rw [thaw_out (F.not q fun _ z => by cases z)]; exact q
/-- known again behind what kept it untracked -/
theorem hok_refrz (F : Frozen S H) (x : HOk P w H' h') (k : ∀ b ∈ S, ∀ o, H b = some (frzP o) → h'.get? b = some o ∧ H' b = none) : HOk P w (refrz S H H') h' := fun b o e => by
  have out : ∀ {c : Addr} {u : HO}, H' c = some u → c ∉ S := fun q hc => by
    obtain ⟨oc, y⟩ := F _ hc
    rw [(k _ hc oc y).2] at q
    cases q
  by_cases hb : b ∈ S
  · rw [refrz_in hb] at e
    obtain ⟨ob, q⟩ := F b hb
    rw [e] at q
    cases q
    exact frzP_ok (k b hb ob e).1
  · rw [refrz_out hb] at e
    exact (x b o e).stay (fun _ _ _ q => q) (fun c q => by rw [refrz_out (out q)]; exact q) fun c xs q => by rw [refrz_out (out q)]; exact q
theorem refrz_un (F : Frozen S H) (x : HOk P w H h) (nf : ∀ b ∈ S, b ∉ fs) (u : Un fs [] (thaw S H) H' h h') : Un fs [] H (refrz S H H') h h' ∧ ∀ b ∈ S, ∀ o, H b = some (frzP o) → h'.get? b = some o ∧ H' b = none := by
  have keep : ∀ b ∈ S, ∀ o, H b = some (frzP o) → h'.get? b = some o ∧ H' b = none := fun b hb o e => by
    have e1 := frzP_at x e
    exact ⟨u.keep b o e1 (thaw_in hb) (nf b hb) (by simp), u.free b o e1 (thaw_in hb) (by simp)⟩
  have no : ∀ {b : Addr}, H b = none → b ∉ S := fun n hb => by
    obtain ⟨o, q⟩ := F _ hb
    rw [n] at q; cases q
  refine ⟨⟨fun b o q n => u.keep b o q (thaw_none n), fun b o q n => u.slot b o q (thaw_none n), fun b o q n hx => ?_, u.there, fun b xs q => ?_, fun b o v q => ?_, fun b ps q => ?_⟩, keep⟩
  · rw [refrz_out (no n)]; exact u.free b o q (thaw_none n) hx
  · have hb := F.not q fun _ z => by cases z
    rw [refrz_out hb]; exact u.tups b xs (by rw [thaw_out hb]; exact q)
  · by_cases hb : b ∈ S
    · rw [refrz_in hb]; exact q
    · rw [refrz_out hb]; exact u.frzs b o v (by rw [thaw_out hb]; exact q)
  · have hb := F.not q fun _ z => by cases z
    obtain ⟨more, y⟩ := u.tbls b ps (by rw [thaw_out hb]; exact q)
    exact ⟨more, by rw [refrz_out hb]; exact y⟩
theorem refrz_ub (F : Frozen S H) (x : HOk P w H h) (nf : ∀ b ∈ S, b ∉ fs) (u : UB fs (thaw S H) H' h B h') : UB fs H (refrz S H H') h B h' ∧ ∀ b ∈ S, ∀ o, H b = some (frzP o) → B.get? b = some o ∧ H' b = none := by
  have keep : ∀ b ∈ S, ∀ o, H b = some (frzP o) → B.get? b = some o ∧ H' b = none := fun b hb o e => by
    have e1 := frzP_at x e
    exact ⟨u.keep b o e1 (thaw_in hb) (nf b hb), u.free b o e1 (thaw_in hb)⟩
  have no : ∀ {b : Addr}, H b = none → b ∉ S := fun n hb => by
    obtain ⟨o, q⟩ := F _ hb
    rw [n] at q; cases q
  refine ⟨⟨fun b o q n => u.keep b o q (thaw_none n), u.slot, fun b o q n => ?_, u.there, fun b xs q => ?_, fun b o v q => ?_, fun b ps q => ?_⟩, keep⟩
  · rw [refrz_out (no n)]; exact u.free b o q (thaw_none n)
  · have hb := F.not q fun _ z => by cases z
    rw [refrz_out hb]; exact u.tups b xs (by rw [thaw_out hb]; exact q)
  · by_cases hb : b ∈ S
    · rw [refrz_in hb]; exact q
    · rw [refrz_out hb]; exact u.frzs b o v (by rw [thaw_out hb]; exact q)
  · have hb := F.not q fun _ z => by cases z
    obtain ⟨more, y⟩ := u.tbls b ps (by rw [thaw_out hb]; exact q)
    exact ⟨more, by rw [refrz_out hb]; exact y⟩
end
section
variable {P : Program} {w : World} {K : PySem.W.Frag} {mg : Str → Option Value} {base : Heap} {A : Around} {outer : List Env} {s : Shared} {S : List Addr} {H : Hp} {M : Model} {c : Code} {Q : VK} {E : XK}
theorem env0_thaw (F : Frozen S H) (e : Env0 P w K mg base A outer s H) : Env0 P w K mg base A outer s (thaw S H) :=
  { e with bs := fun b o q => ⟨(e.bs b o q).1, thaw_none (e.bs b o q).2⟩, frf := fun b q => thaw_none (e.frf b q), hok := hok_thaw F e.hok }
/-- a code that runs where S is forgotten runs where it is known -/
theorem run_thawed (F : Frozen S H) (e : Env0 P w K mg base A outer s H)
    (h : codeAny M A c (CR (L2.CX P w) outer P w (thaw S H) s (fun v H' => (∀ b ∈ S, H' b = none) → Q v (refrz S H H')) (fun cls d H' => (∀ b ∈ S, H' b = none) → E cls d (refrz S H H'))) s) : codeAny M A c (CR (L2.CX P w) outer P w H s Q E) s := by
  have nf : ∀ b ∈ S, b ∉ frs outer := fun b hb hm => by
    obtain ⟨o, q⟩ := F b hb
    rw [e.frf b hm] at q; cases q
  refine codeAny_mono h fun r s' hq => ?_
  match r, hq with
  | .ok (.ret u), hq =>
    obtain ⟨v, H', os, bare, un, hok, rv, q⟩ := hq
    obtain ⟨un', k⟩ := refrz_un F e.hok nf un
    exact ⟨v, _, os, bare, un', hok_refrz F hok k, rv, q fun b hb => by
      obtain ⟨o, y⟩ := F b hb
      exact (k b hb o y).2⟩
  | .error u, hq =>
    obtain ⟨a, B, H', cls, d, eu, fl, hok, ub, na, os, bare, q⟩ := hq
    obtain ⟨ub', k⟩ := refrz_ub F e.hok nf ub
    refine ⟨a, B, _, cls, d, eu, fl, hok_refrz F hok k, ub', ?_, os, bare, q fun b hb => by
      obtain ⟨o, y⟩ := F b hb
      exact (k b hb o y).2⟩
    have ha : a ∉ S := fun hb => by
      obtain ⟨o, y⟩ := F a hb
      have z := (k a hb o y).1
      rw [fl.2.1] at z; cases z
    rw [refrz_out ha]; exact na
end
end My

/-! A lambda without parameters, called. -/
namespace My
open PySem PySem.Spec PyProof.Rows L2 LamX
abbrev FnObj (fd : FuncData) : Obj := { cls := .type "function", data := .func fd }
/-- a lambda's words and what it captured -/
structure Lam where
  q : Str
  params : Arguments
  body : Expr
  scope : Scope
  clo : List (Str × Addr)
  pm : Value
  c : Addr
  ct : Value
abbrev Lam.fd (l : Lam) : FuncData := PySem.W.kla_fn "<lambda>" l.q l.params l.body l.scope l.clo l.pm (.ref l.c) l.ct
abbrev Lam.S (l : Lam) : List Addr := l.clo.map (·.2)
abbrev Lam.env (l : Lam) (L f : Addr) : Env := PySem.W.envX l.q l.scope L f (.ref l.c) l.clo
/-- the words alone: no parameters, names captured or the module's -/
structure Lam.Ok (l : Lam) : Prop where
  kind : l.scope.kind = .function
  co : l.scope.isCoroutine = false
  gen : l.scope.isGenerator = false
  own : ∀ y ∈ l.scope.names, y.2 ≠ .local ∧ y.2 ≠ .cell
  free : ∀ y ∈ l.scope.names, y.2 = .free → ∃ c, l.clo.lookup y.1 = some c
  inj : ∀ x y c, l.clo.lookup x = some c → l.clo.lookup y = some c → x = y
  bind : bindArgs l.fd ⟨[], []⟩ = pure []
/-- the body's context -/
def lamX (P : Program) (w : World) (K : PySem.W.Frag) (mg : Str → Option Value) (base : Heap) (N : List Str) (l : Lam) (f : Addr) (A : Around) (outer : List Env) (s : Shared) (H : Hp) (E : XK) : Cx where
  prog := P
  w := w
  K := K
  mg := mg
  base := base
  A := A.deeper (l.env s.heap.objs.size f)
  N := N
  s_0 := s
  H_0 := H
  env := l.env s.heap.objs.size f
  outer := outer
  stack := l.env s.heap.objs.size f :: outer
  ex := []
  fn := fun _ => false
  calm := true
  pn := []
  xe := fun e s' => wpAny (model P w) (A.deeper (l.env s.heap.objs.size f)) (leaving (l.env s.heap.objs.size f) e) (fun _ s2 => L2.CX P w outer H s E e s2) (fun e2 s2 => L2.CX P w outer H s E e2 s2) s'
/-- what the cells say of the names -/
structure Holds (l : Lam) (N : List Str) (σ : L2.St) (H : Hp) : Prop where
  len : σ.length = N.length
  cell : ∀ x c, l.clo.lookup x = some c → ∃ o v, H c = some (frzP o) ∧ o.data = .cell v
  val : ∀ (i : Nat) (x : Str) (v : V), N[i]? = some x → σ[i]? = some (some v) → Vis l.scope x → ∃ c o u, l.clo.lookup x = some c ∧ H c = some (frzP o) ∧ o.data = .cell (some u) ∧ RelV v u
section
variable {P : Program} {w : World} {K : PySem.W.Frag} {mg : Str → Option Value} {base : Heap} {N : List Str} {l : Lam} {f : Addr} {A : Around} {outer : List Env} {s : Shared} {H : Hp} {E : XK} {σ : L2.St}
theorem mem_clo {l : Lam} {x : Str} {c : Addr} (h : l.clo.lookup x = some c) : c ∈ l.S := List.mem_map.mpr ⟨(x, c), PySem.mem_of_lookup h, rfl⟩
theorem lam_inv {h1 : Heap} {tk : Nat} (L : l.Ok) (e : Env0 P w K mg base A outer s (thaw l.S H)) (hd : A.handled = none) (C : Holds l N σ H) (ok : HOk P w H s.heap) (hns : h1.Ns s.heap.objs.size fun _ => none) (kp : ∀ b o, s.heap.get? b = some o → h1.get? b = some o) :
    Inv (lamX P w K mg base N l f A outer s (thaw l.S H) E) [] σ (thaw l.S H) { s with heap := h1, toks := tk } := by
  have none_in : ∀ b : Addr, b ∉ (lamX P w K mg base N l f A outer s (thaw l.S H) E).ex := fun b z => by cases (show b ∈ ([] : List Addr) from z)
  have vis : ∀ {x : Str} {k : NameKind}, l.scope.names.lookup x = some k → k = .local ∨ k = .cell → False := fun h r => by
    have y := L.own _ (PySem.mem_of_lookup h)
    rcases r with r | r
    · exact y.1 r
    · exact y.2 r
  exact {
    ok := {
      mod := e.mod, kind := L.kind, glob := rfl, blt := rfl, above := Nat.le_refl _
      inj := fun x y c a b => L.inj x y c a b
      has := fun x hx => by
        rcases (show l.scope.names.lookup x = some .cell ∨ l.scope.names.lookup x = some .free from hx) with k | k
        · exact (vis k (.inr rfl)).elim
        · exact L.free _ (PySem.mem_of_lookup k) rfl
      cab := fun x c z _ => by cases (show false = true from z)
      hd := fun _ => hd
      frames := Around.frames_deeper e.frames
      stk := .inr ⟨rfl, rfl⟩
      exf := fun b z => (none_in b z).elim
      bs := e.bs, bsz := e.bsz
      noex := fun b _ _ => none_in b
      exfs := fun b z => (none_in b z).elim
      funs := e.funs, frf := e.frf }
    os := rfl, bare := e.bare, base := Un.kept kp
    loc := ⟨_, hns, fun i x v e1 e2 e3 => by
      obtain ⟨c, o, u, k1, k2, k3, r⟩ := C.val i x v e1 e2 e3
      have fr : l.scope.names.lookup x = some .free := by
        rcases e3 with k | k | k
        · exact (vis k (.inl rfl)).elim
        · exact (vis k (.inr rfl)).elim
        · exact k
      exact ⟨u, r, .inr ⟨.inr fr, c, k1, o, kp _ _ (frzP_at ok k2), k3⟩⟩⟩
    cell := fun x c q => by
      obtain ⟨o, v, k2, k3⟩ := C.cell x c q
      exact ⟨v, o, kp _ _ (frzP_at ok k2), k3⟩
    free := e.hok.fresh (Nat.le_refl _)
    freeC := fun x c q => thaw_in (mem_clo q)
    pin := fun p hp => by cases (show p ∈ ([] : List (Addr × Obj)) from hp)
    hok := e.hok.kept kp, len := C.len }
/-- the promise of a lambda: what its body's reading says -/
def spLam (P : Program) (w : World) (K : PySem.W.Frag) (mg : Str → Option Value) (base : Heap) (k : Nat) (N : List Str) (l : Lam) (f : Addr) : Sp := fun vs H Q E =>
  vs = [] ∧ Frozen l.S H ∧ H f = some (frzP (FnObj l.fd)) ∧ H l.c = some (CodeO l.c l.q) ∧ ∃ σ : L2.St, Holds l N σ H ∧
    ∀ (A : Around) (outer : List Env) (s : Shared), Room k (A.deeper (l.env s.heap.objs.size f)) → (A.deeper (l.env s.heap.objs.size f)).guards = some [] →
      ∃ t, PE (lamX P w K mg base N l f A outer s (thaw l.S H) (fun cls d H' => (∀ b ∈ l.S, H' b = none) → E cls d (refrz l.S H H'))) l.body t ∧ t σ (thaw l.S H) (fun v H' => (∀ b ∈ l.S, H' b = none) → Q v (refrz l.S H H'))
theorem fn_lam {k : Nat} (L : l.Ok) : FnG P w K mg base (L2.CX P w) (k + 1) f l.fd [] (spLam P w K mg base k N l f) := by
  constructor
  · rintro vs H Q E ⟨rfl, _⟩
    rfl
  intro A outer s H args us vs Q E hr hg e hb r ⟨ev, F, hf, hc, σ, C, hbody⟩
  subst ev
  cases r
  refine run_thawed F e ?_
  have e' := env0_thaw F e
  have at_ := frzP_at e.hok hf
  obtain ⟨⟨oc, vc, tc, c1, c2, c3⟩, _, _⟩ := (show ObjOk P w H s.heap l.c (CodeO l.c l.q) from e.hok _ _ hc)
  have lim : s.heap.NoLimit := e.mod.nolimit.keeps fun b o q => (e.bs b o q).1
  obtain ⟨t, ht, q⟩ := hbody A outer s (hr.deeper _) hg
  refine PySem.W.kla_callFunE hr.depth at_ rfl L.co L.gen rfl ⟨l.c, oc, vc, tc, rfl, c1, c2, c3⟩ ?_
  refine hb _ _ _ _ ?_
  refine wpAny_newFunctionEnv (fun y hy => (L.own y hy).2) (fun y hy => by cases (show y ∈ ([] : List (Str × Value)) from hy)) (fun h1 hns hsb => ⟨lim.fresh _ hsb, ?_⟩) L.kind
  have kp : ∀ b o, s.heap.get? b = some o → h1.get? b = some o := fun b o e => hsb.extBut b o (Nat.ne_of_lt (Heap.lt_size e)) (Heap.get?_push_of_some _ e)
  have J := lam_inv (f := f) (E := fun cls d H' => (∀ b ∈ l.S, H' b = none) → E cls d (refrz l.S H H')) (tk := s.toks + ([] : List (Str × Value)).length) L e' hr.hd C e.hok hns kp
  refine PySem.W.kla_codeExpr (wpAny_mono (ht.run [] _ σ _ _ J q) (fun v s' ⟨w', H', J', rv, z⟩ => ?_) fun _ _ z => z)
  exact ⟨w', H', J'.os, J'.bare, J'.base, J'.hok, rv, z⟩
end
end My

/-! A lambda is made and handed to a def; a local name that holds a function is called. -/
namespace My
open PySem PySem.Spec PyProof.Rows L2 LamX
section
variable {X : Cx} {pins : List (Addr × Obj)} {σ : L2.St} {H : Hp} {s : Shared} {T : List (Addr × Str)} {c P : Addr} {params : Arguments} {body : Expr} {scope : Scope} {pos : Pos}
theorem upd_keeps {H : Hp} {f : Addr} {u : HO} (n : H f = none) : ∀ b o, H b = some o → upd H f u b = some o := fun b o e => by
  rw [upd_ne (ne_of_none e n)]; exact e
/-- a table that got one more code object -/
theorem tab_more {ps : Array Value} {q : Str} {c' : Addr} (hP : H P = some (.tbl ps)) (t : TabS H P q) (nC : H c' = none) :
    TabS (upd (upd H P (.tbl (ps ++ #[rawInt pos.line, rawInt pos.col, .ref c']))) c' (CodeO c' q)) P q := by
  obtain ⟨ps2, h1, h2, h3⟩ := t
  obtain rfl : ps = ps2 := by rw [hP] at h1; exact HO.tbl.inj (Option.some.inj h1)
  have eL : (ps ++ #[rawInt pos.line, rawInt pos.col, .ref c']).toList = ps.toList ++ [rawInt pos.line, rawInt pos.col, .ref c'] := by simp
  refine ⟨ps ++ #[rawInt pos.line, rawInt pos.col, .ref c'], by rw [upd_ne (ne_of_none hP nC), upd_same], ?_, fun p cv hcv => ?_⟩
  · rw [eL]; exact PySem.TriplesOk_snoc _ _ _ _ h2
  · rw [eL] at hcv
    rcases among_app _ h2 hcv with z | rfl
    · obtain ⟨c0, e1, e2⟩ := h3 p cv z
      refine ⟨c0, e1, ?_⟩
      rw [upd_ne (ne_of_none e2 nC), upd_ne (fun y => by rw [y, hP] at e2; exact codeO_ne ps (Option.some.inj e2).symm)]
      exact e2
    · exact ⟨c', rfl, upd_same⟩
theorem tab_other {ps more : Array Value} {q q' : Str} {c' P' : Addr} (hP : H P = some (.tbl ps)) (ne : P' ≠ P) (t : TabS H P' q') (nC : H c' = none) : TabS (upd (upd H P (.tbl more)) c' (CodeO c' q)) P' q' := by
  obtain ⟨ps2, h1, h2, h3⟩ := t
  refine ⟨ps2, by rw [upd_ne (ne_of_none h1 nC), upd_ne ne]; exact h1, h2, fun p cv hcv => ?_⟩
  obtain ⟨c0, e1, e2⟩ := h3 p cv hcv
  refine ⟨c0, e1, ?_⟩
  rw [upd_ne (ne_of_none e2 nC), upd_ne (fun y => by rw [y, hP] at e2; exact codeO_ne ps (Option.some.inj e2).symm)]
  exact e2
/-- lambda: body, evaluated: the function is known from then on -/
theorem lam_lay {E : Value → Shared → Prop} {Q : Value → Shared → Prop} (I : Inv X pins σ H s) (TB : TabB X.base X.mg c P) (hcode : X.env.code = .ref c) (hm : (P, X.env.qual ++ "<lambda>") ∈ T) (hu : ∀ p ∈ T, p.1 = P → p.2 = X.env.qual ++ "<lambda>")
    (hT : Tabs T H) (hdef : defaultsOf params X.env = ([], [])) (hfree : ∀ y ∈ scope.names, y.2 = .free → ∃ c, X.env.cells.lookup y.1 = some c)
    (h : ∀ (f : Addr) (l : Lam) (H1 : Hp) (s' : Shared), l.q = X.env.qual ++ "<lambda>" → l.params = params → l.body = body → l.scope = scope → l.clo = cloFrom X.env.cells scope.names [] → Inv X pins σ H1 s' → ExtN H H1 → Tabs T H1 → H f = none →
      H1 f = some (frzP (FnObj l.fd)) → H1 l.c = some (CodeO l.c l.q) → Q (.ref f) s') :
    wpAny (model X.prog X.w) X.A (eval (.Lambda params body scope pos) X.env) Q E s := by
  obtain ⟨ps, hP, ht, ha⟩ := hT _ hm
  have bP : s.heap.BuiltinsAt X.mg P := TB.bm.keeps I.bk
  have cP := TB.code.keeps I.bk
  have gP := I.mod.glob.keeps I.bk
  have atP : s.heap.get? P = some { cls := .none, data := .fields ps } := I.hok P _ hP
  have fin : ∀ (c' : Addr) (pm ctv : Value) (H1 : Hp) (h' : Heap) (tk : Nat), Inv X pins σ H1 { s with heap := h', toks := tk } → ExtN H H1 → Tabs T H1 → H1 c' = some (CodeO c' (X.env.qual ++ "<lambda>")) → H h'.objs.size = none →
      Q (.ref h'.objs.size) { s with heap := h'.push (PySem.W.kla_obj "<lambda>" (X.env.qual ++ "<lambda>") params body scope (cloFrom X.env.cells scope.names []) pm c' ctv), toks := tk } := by
    intro c' pm ctv H1 h' tk I1 eN T1 hc n0
    have n1 : H1 h'.objs.size = none := I1.hok.fresh (Nat.le_refl _)
    have up := upd_keeps (u := frzP (PySem.W.kla_obj "<lambda>" (X.env.qual ++ "<lambda>") params body scope (cloFrom X.env.cells scope.names []) pm c' ctv)) n1
    refine h _ ⟨_, params, body, scope, _, pm, c', ctv⟩ _ _ rfl rfl rfl rfl rfl (I1.laid (t' := tk) (fun b o e => Heap.get?_push_of_some _ e) (Nat.le_refl _) (frzP_ok (Heap.get?_push_size _ rfl))) (fun b o e n => up _ _ (eN b o e n)) (T1.ext up) n0 upd_same (up _ _ hc)
  refine PySem.W.kla_eval hdef ?_
  cases hc : codeAmong pos ps.toList with
  | some cv =>
    obtain ⟨c', rfl, hco⟩ := ha pos cv hc
    refine PySem.W.kla_makeFunctionHit (mg := X.mg) (c := c) (P := P) (ps := ps) (closure_ok hfree) I.ok.glob gP hcode cP atP ht hc bP fun ctv h' tk hx hsz => ?_
    exact fin c' _ ctv H h' tk (I.kept hx) (ExtN.refl H) hT hco (I.hok.fresh hsz)
  | none =>
    refine PySem.W.kla_makeFunction (mg := X.mg) (c := c) (P := P) (ps := ps) (closure_ok hfree) I.ok.glob gP hcode cP atP ht hc TB.gP bP fun c' ctv h' tk hx hge hlt hrec htb => ?_
    obtain ⟨c2, oc, vs, t, e2, hoc, hd, hv⟩ := hrec
    cases e2
    have nC : H c' = none := I.hok.fresh hge
    refine fin c' _ ctv _ h' tk (inv_table (more := #[rawInt pos.line, rawInt pos.col, .ref c']) I hP hx htb hge ⟨oc, vs, t, hoc, hd, hv⟩) (fun b o e n => ?_) (fun p hp => ?_) upd_same (I.hok.fresh (Nat.le_trans hge (Nat.le_of_lt hlt)))
    · rw [upd_ne (ne_of_none e nC), upd_ne (fun z => n ps (Option.some.inj (e.symm.trans (by rw [z]; exact hP))))]
      exact e
    · by_cases hb : p.1 = P
      · have e2 := hu p hp hb
        rw [hb, e2]
        exact tab_more hP (e2 ▸ hb ▸ hT p hp) nC
      · exact tab_other hP hb (hT p hp) nC
end
/-- the cells of clo, frozen while a callee runs -/
structure FrzN (N : List Str) (sc : Scope) (clo : List (Str × Addr)) (σ : L2.St) (H H3 : Hp) : Prop where
  out : ∀ b, b ∉ clo.map (·.2) → H3 b = H b
  was : ∀ b ∈ clo.map (·.2), H b = none
  froz : Frozen (clo.map (·.2)) H3
  cell : ∀ x c, clo.lookup x = some c → ∃ o v, H3 c = some (frzP o) ∧ o.data = .cell v
  val : ∀ (i : Nat) (x : Str) (v : V), N[i]? = some x → σ[i]? = some (some v) → Vis sc x → ∀ c, clo.lookup x = some c → ∃ o u, H3 c = some (frzP o) ∧ o.data = .cell (some u) ∧ RelV v u
abbrev FrzOf (X : Cx) := FrzN X.N X.env.scope
section
variable {X : Cx} {pins : List (Addr × Obj)} {σ : L2.St} {H : Hp} {s : Shared} {clo : List (Str × Addr)}
theorem FrzOf.keeps {H3 : Hp} (F : FrzOf X clo σ H H3) {b : Addr} {o : HO} (e : H b = some o) : H3 b = some o := by
  rw [F.out b fun hb => by rw [F.was b hb] at e; cases e]; exact e
theorem inv_freeze (I : Inv X pins σ H s) (hc : ∀ p ∈ clo, X.env.cells.lookup p.1 = some p.2 ∧ X.fn p.1 = true ∧ X.env.kindOf p.1 ≠ some .local) : ∃ H3, FrzOf X clo σ H H3 ∧ Env0 X.prog X.w X.K X.mg X.base X.A X.stack s H3 := by
  have lk : ∀ {x c}, clo.lookup x = some c → X.env.cells.lookup x = some c ∧ X.fn x = true ∧ X.env.kindOf x ≠ some .local := fun q => hc _ (PySem.mem_of_lookup q)
  have inS : ∀ {b : Addr}, b ∈ clo.map (·.2) → ∃ x, X.env.cells.lookup x = some b ∧ X.fn x = true := fun hb => by
    obtain ⟨p, hp, rfl⟩ := List.mem_map.mp hb
    exact ⟨p.1, (hc p hp).1, (hc p hp).2.1⟩
  have was : ∀ b ∈ clo.map (·.2), H b = none := fun b hb => by
    obtain ⟨x, q, _⟩ := inS hb
    exact I.freeC x b q
  have big : ∀ b ∈ clo.map (·.2), X.s_0.heap.objs.size ≤ b := fun b hb => by
    obtain ⟨x, q, z⟩ := inS hb
    exact I.ok.cab x b z q
  have isC : ∀ b ∈ clo.map (·.2), ∃ o v, s.heap.get? b = some o ∧ o.data = .cell v := fun b hb => by
    obtain ⟨x, q, _⟩ := inS hb
    obtain ⟨v, o, e, d⟩ := I.cell x b q
    exact ⟨o, v, e, d⟩
  obtain ⟨H3, def3⟩ : ∃ H3 : Hp, H3 = fun b => if b ∈ clo.map (·.2) then (s.heap.get? b).map frzP else H b := ⟨_, rfl⟩
  have at_in : ∀ b ∈ clo.map (·.2), ∀ o, s.heap.get? b = some o → H3 b = some (frzP o) := fun b hb o e => by rw [def3]; show (if b ∈ clo.map (·.2) then _ else _) = _; rw [if_pos hb, e]; rfl
  have at_out : ∀ b, b ∉ clo.map (·.2) → H3 b = H b := fun b hb => by rw [def3]; exact if_neg hb
  have memS : ∀ {x c}, clo.lookup x = some c → c ∈ clo.map (·.2) := fun q => List.mem_map.mpr ⟨_, PySem.mem_of_lookup q, rfl⟩
  have keep : ∀ {b o}, H b = some o → H3 b = some o := fun e => by
    rw [at_out _ fun hb => by rw [was _ hb] at e; cases e]; exact e
  refine ⟨H3, ⟨at_out, was, fun b hb => ?_, fun x c q => ?_, fun i x v e1 e2 e3 c q => ?_⟩, { I.env0 with bs := fun b o q => ⟨(I.env0.bs b o q).1, ?_⟩, frf := fun b hb => ?_, hok := fun b ob q => ?_ }⟩
  · obtain ⟨o, v, e, _⟩ := isC b hb
    exact ⟨o, at_in b hb o e⟩
  · obtain ⟨o, v, e, d⟩ := isC c (memS q)
    exact ⟨o, v, at_in c (memS q) o e, d⟩
  · obtain ⟨m, hn, hl⟩ := I.loc
    obtain ⟨u, r, z⟩ := hl i x v e1 e2 e3
    rcases z with ⟨k, _⟩ | ⟨_, c2, k2, o, e, d⟩
    · exact absurd k (lk q).2.2
    · rw [(lk q).1] at k2
      cases k2
      exact ⟨o, u, at_in c (memS q) o e, d, r⟩
  · rw [at_out b fun hb => Nat.lt_irrefl _ (Nat.lt_of_lt_of_le (Heap.lt_size q) (Nat.le_trans I.ok.bsz (big b hb)))]
    exact (I.env0.bs b o q).2
  · rw [at_out b fun hS => ?_]
    · exact I.env0.frf b hb
    · obtain ⟨o, v, e, d⟩ := isC b hS
      rcases List.mem_cons.mp (I.stkSub b hb) with z | z
      · obtain ⟨m, ⟨oL, es, ep, hL, hd, _⟩, _⟩ := I.loc
        rw [← z, e] at hL
        cases hL
        rw [d] at hd
        cases hd
      · obtain ⟨_, o', e', _⟩ := I.ok.funs.mem z
        exact Nat.lt_irrefl _ (Nat.lt_of_lt_of_le (Heap.lt_size e') (big b hS))
  · by_cases hb : b ∈ clo.map (·.2)
    · obtain ⟨o, v, e, _⟩ := isC b hb
      rw [at_in b hb o e] at q
      cases q
      exact frzP_ok e
    · rw [at_out b hb] at q
      exact (I.hok b ob q).stay (fun _ _ _ y => y) (fun _ y => keep y) fun _ _ y => keep y
/-- behind the callee the cells are the frame's own again -/
theorem thaw_end {H3 : Hp} {Q : VK} {u : Value} {s' : Shared} (I : Inv X pins σ H s) (F : FrzOf X clo σ H H3) (ok3 : HOk X.prog X.w H3 s.heap) (h : CE X.stack X.prog X.w H3 s (fun v H4 => Q v (thaw (clo.map (·.2)) H4)) u s') : EP X pins σ Q u s' := by
  obtain ⟨v, H4, os, bare, un, hok, rv, q⟩ := h
  have fz4 : Frozen (clo.map (·.2)) H4 := fun b hb => by
    obtain ⟨o, e⟩ := F.froz b hb
    exact ⟨o, un.frzs b o _ e⟩
  have n3 : ∀ {b : Addr}, H b = none → b ∉ clo.map (·.2) → H3 b = none := fun n hb => by rw [F.out _ hb]; exact n
  have ke : ∀ {b : Addr} {o : HO}, H b = some o → b ∉ clo.map (·.2) := fun e hb => by rw [F.was _ hb] at e; cases e
  have stay : ∀ {b : Addr}, b ∈ clo.map (·.2) → ∀ o, s.heap.get? b = some o → s'.heap.get? b = some o := fun hb o e => by
    obtain ⟨o', y⟩ := F.froz _ hb
    have e1 := frzP_at ok3 y
    rw [e] at e1
    cases e1
    exact frzP_at hok (un.frzs _ o _ y)
  refine I.after (H := H) ⟨v, _, os, bare, ⟨fun b o e n hf hx => ?_, fun b o e n hf hx => ?_, fun b o e n hx => ?_, un.there, fun b xs e => ?_, fun b o x e => ?_, fun b ps e => ?_⟩, hok_thaw fz4 hok, rv, q⟩
  · by_cases hb : b ∈ clo.map (·.2)
    · exact stay hb o e
    · exact un.keep b o e (n3 n hb) hf hx
  · by_cases hb : b ∈ clo.map (·.2)
    · exact ⟨o.slots, stay hb o e⟩
    · exact un.slot b o e (n3 n hb) hf hx
  · by_cases hb : b ∈ clo.map (·.2)
    · exact thaw_in hb
    · rw [thaw_out hb]; exact un.free b o e (n3 n hb) hx
  · rw [thaw_out (ke e)]; exact un.tups b xs (F.keeps e)
  · rw [thaw_out (ke e)]; exact un.frzs b o x (F.keeps e)
  · obtain ⟨more, y⟩ := un.tbls b ps (F.keeps e)
    exact ⟨more, by rw [thaw_out (ke e)]; exact y⟩
end
/-- g(lambda: body, es ..): the reading -/
def tCallLam (X : Cx) (T : List (Addr × Str)) (params : Arguments) (body : Expr) (scope : Scope) (sp : Sp) (t : TA) : TE := fun σ H Q => Tabs T H ∧
  ∀ (f : Addr) (l : Lam) (H1 : Hp), l.q = X.env.qual ++ "<lambda>" → l.params = params → l.body = body → l.scope = scope → l.clo = cloFrom X.env.cells scope.names [] → ExtN H H1 → Tabs T H1 → H f = none → H1 f = some (frzP (FnObj l.fd)) → H1 l.c = some (CodeO l.c l.q) →
    t σ H1 fun vs H2 => ∀ H3, FrzOf X l.clo σ H2 H3 → sp (.ref f :: vs) H3 (fun v H4 => Q v (thaw l.S H4)) fun _ _ _ => False
section
variable {X : Cx} {k : Nat} {g c P : Addr} {fd : FuncData} {ps : List Str} {sp : Sp} {x : Str} {p lpos pos : Pos} {es : List Expr} {t : TA} {T : List (Addr × Str)} {params : Arguments} {body : Expr} {scope : Scope}
theorem pe_cgL (F : FnG X.prog X.w X.K X.mg X.base CX0 k g fd ps sp) (hr : Room k X.A) (hG : X.A.guards = some []) (hg : Gl X x) (hm : X.mg x = some (.ref g)) (hk : PySem.W.keepIn X.K (.ref g) = true) (hb : Binds X.K fd ps [])
    (TB : TabB X.base X.mg c P) (hcode : X.env.code = .ref c) (hT : (P, X.env.qual ++ "<lambda>") ∈ T) (hu : ∀ p ∈ T, p.1 = P → p.2 = X.env.qual ++ "<lambda>") (hdef : defaultsOf params X.env = ([], []))
    (hfree : ∀ y ∈ scope.names, y.2 = .free → X.fn y.1 = true ∧ (X.env.kindOf y.1 = some .cell ∨ X.env.kindOf y.1 = some .free)) (ha : PA X es t)
    (hdb : (x == ("__debug__" : Str)) = false := by decide) (he : starEach (.Lambda params body scope lpos :: es) X.env = (false, eval (.Lambda params body scope lpos) X.env) :: starEach es X.env := by rfl)
    (hpl : (backTo pos (starEach es X.env)).any (·.1) = false := by rfl) :
    PE X (.Call (.Name x p) (.Lambda params body scope lpos :: es) [] pos) (tCallLam X T params body scope sp t) := by
  constructor
  intro pins s σ H Q I ⟨hTabs, h⟩
  have has : ∀ y ∈ scope.names, y.2 = .free → ∃ c, X.env.cells.lookup y.1 = some c := fun y hy e => I.ok.has _ (hfree y hy e).2
  refine wpAny_Call_Name_kw (ld_glob I hg hm ?_ hdb)
  refine PySem.W.callWith_K (h₀ := X.base) I.ok.mod.kin hk ?_ he hpl
  rw [he]
  show wpAny _ _ (spliced ((false, eval (.Lambda params body scope lpos) X.env) :: backTo pos (starEach es X.env))) _ _ s
  refine Calls.spliced_cons (lam_lay I TB hcode hT hu hTabs hdef has fun f l H1 s1 e1 e2 e3 e4 e5 I1 eN T1 n0 hf hc => ?_)
  refine thn (ha.run pos pins s1 σ H1 _ I1 (h f l H1 e1 e2 e3 e4 e5 eN T1 n0 hf hc)) ?_
  rintro us s2 ⟨vs, H2, I2, r, q⟩
  refine ⟨I2.kIn, ?_⟩
  have hclo : ∀ p ∈ l.clo, X.env.cells.lookup p.1 = some p.2 ∧ X.fn p.1 = true ∧ X.env.kindOf p.1 ≠ some .local := fun y hy => by
    rw [e5] at hy
    rcases cloFrom_mem hy with z | ⟨z1, z2⟩
    · cases z
    · obtain ⟨c1, q1⟩ := has _ z1 rfl
      have fr := hfree _ z1 rfl
      refine ⟨by rw [z2]; show _ = some ((X.env.cells.lookup y.1).getD 0); rw [show X.env.cells.lookup y.1 = some c1 from q1]; rfl, fr.1, fun z => ?_⟩
      rcases fr.2 with y2 | y2 <;> · have y3 : X.env.kindOf y.1 = _ := y2; rw [z] at y3; cases y3
  obtain ⟨H3, FZ, E3⟩ := inv_freeze I2 hclo
  have q3 := q H3 FZ
  have r3 : Vals (.ref f :: vs) (.ref f :: us) := .cons rfl r
  have hl : (.ref f :: us : List Value).length = ps.length := by rw [← r3.length]; exact F.len _ _ _ _ q3
  have hb' := hb s2 (.ref f :: us) I2.kIn (by rw [List.append_nil]; exact hl)
  rw [List.append_nil] at hb'
  refine wpAny_call (codeAny_mono (F.run X.A X.stack s2 H3 ⟨.ref f :: us, []⟩ (.ref f :: us) _ _ _ hr hG E3 hb' r3 q3) fun r s' z => ?_)
  match r, z with
  | .error e, z => exact (show False from z).elim
  | .ok (.ret u), z => exact thaw_end I2 FZ E3.hok z
end
/-! ### a local name that holds a function -/
def tCallV (P : Program) (w : World) (K : PySem.W.Frag) (mg : Str → Option Value) (base : Heap) (k : Nat) (i : Nat) (E : L2.St → XK) : TE := fun σ H Q =>
  ∃ (f : Addr) (fd : FuncData) (sp : Sp), σ[i]? = some (some (.ref f)) ∧ FnG P w K mg base (L2.CX P w) k f fd [] sp ∧ H f = some (frzP (FnObj fd)) ∧ bindArgs fd ⟨[], []⟩ = pure [] ∧ sp [] H Q (E σ)
theorem pe_callV {X : Cx} {k i : Nat} {x : Str} {p pos : Pos} {E : L2.St → XK} (hr : Room k X.A) (hG : X.A.guards = some []) (hN : X.N[i]? = some x) (hv : Vis X.env.scope x) (hx : ∀ σ, PassesAt (L2.CX X.prog X.w) X σ (E σ))
    (hdb : (x == ("__debug__" : Str)) = false := by decide) (hcd : (x == ("__classdict__" : Str)) = false := by decide) : PE X (.Call (.Name x p) [] [] pos) (tCallV X.prog X.w X.K X.mg X.base k i E) := by
  constructor
  rintro pins s σ H Q I ⟨f, fd, sp, hs, F, hf, hb, q⟩
  refine wpAny_Call_Name_kw (thn ((pe_var (pos := p) hN hv hdb hcd).run pins s σ H (fun v H1 => v = .ref f ∧ H1 = H) I ⟨.ref f, hs, rfl, rfl⟩) ?_)
  rintro u s1 ⟨v, H1, I1, r1, rfl, rfl⟩
  cases r1
  refine PySem.W.callWith_F0 ⟨_, _, fd, _, frzP_at I1.hok hf⟩ (wpAny_call (codeAny_mono (F.run X.A X.stack s1 _ ⟨[], []⟩ [] [] Q _ hr hG I1.env0 (.of_eq hb) .nil q) fun r s' z => ?_))
  match r, z with
  | .error e, z => exact hx σ pins _ s1 e s' I1 z
  | .ok (.ret u), z => exact I1.after z
end My

/-! A def by its body, its code object known; a def that may let an exception out. -/
namespace My
open PySem PySem.Spec PyProof.Rows L2
section
variable {P : Program} {w : World} {K : PySem.W.Frag} {mg : Str → Option Value} {base : Heap} {C : CXT} {k : Nat} {f : Addr} {fd : FuncData} {ps : List Str} {sp : Sp} {x qual : Str} {st : Stmt} {N : List Str}
theorem Fun.code_eq (F : Fun K x qual st f fd) : ∃ cdv, fd.code = cdv := ⟨_, rfl⟩
/-- as def_ok, and the code object is the function's own -/
theorem def_code (F : Fun K x qual st f fd) (S : FnScope N ps (defScope st)) (len : ∀ vs H Q E, sp vs H Q E → vs.length = ps.length)
    (body : ∀ (cdv : Value) (A : Around) (outer : List Env) (s : Shared) (H : Hp) (vs : List V) (Q : VK) (E : XK), fd.code = cdv →
      Room k (A.deeper (envOfC qual (defScope st) s.heap.objs.size f cdv)) → (A.deeper (envOfC qual (defScope st) s.heap.objs.size f cdv)).guards = some [] → sp vs H Q E →
      ∃ t, PSs (cxOf C P w K mg base N qual (defScope st) f cdv A outer s H E) (defBody st) t ∧ t { nx := fun _ H' => Q .non H', rt := Q } (start N vs) H) :
    FnG P w K mg base C (k + 1) f fd ps sp := by
  obtain ⟨oc, od, kV, doc, pm, an, cdv, ct, osl, rfl, lk, hcd⟩ := F.ex
  refine ⟨len, fun A outer s H args us vs Q E hr hg e hb r h => ?_⟩
  have up : ∀ b o, base.get? b = some o → s.heap.get? b = some o := fun b o q => (e.bs b o q).1
  have KX := e.mod.kin.keeps up
  refine codeAny_call_function hr.depth (KX _ _ lk) rfl S.co S.gen rfl (PySem.W.codeRec_of KX hcd) (hb _ _ _ _ (wpAny_newFunctionEnv_cells S.kind (fun y hy => ?_) fun env he s1 x => ?_))
  · rcases S.par y.1 (List.of_mem_zip hy).1 with q | q
    · exact .inl q
    · exact .inr ⟨q, PySem.W.cellsFrom_some _ _ _ (.inl q)⟩
  subst he
  refine ⟨(e.mod.nolimit.keeps up).keeps x.toInCall.keep, codeAny_func ?_⟩
  obtain ⟨t, ht, hq⟩ := body cdv A outer s H vs Q E rfl (hr.deeper _) hg h
  refine wpAny_mono (ht.run [] s1 (start N vs) H _ (inv_start S hr.hd e (len _ _ _ _ h) r x) hq) (fun fl s' z => ?_) (fun _ _ z => z)
  match fl, z with
  | .next, ⟨_, H', J, q⟩ => exact ⟨V.non, H', J.os, J.bare, J.base, J.hok, rfl, q⟩
  | .ret u, ⟨v, _, H', J, rv, q⟩ => exact ⟨v, H', J.os, J.bare, J.base, J.hok, rv, q⟩
  | .brk, ⟨_, _, _, q⟩ => exact q.elim
  | .cont, ⟨_, _, _, q⟩ => exact q.elim
end
end My

/-! g(lambda: body, es ..) in a comprehension's block: the reading names no context. -/
namespace My
open PySem PySem.Spec PyProof.Rows L2 LamX
def tCallLamN (N : List Str) (sc : Scope) (q : Str) (T : List (Addr × Str)) (params : Arguments) (body : Expr) (scope : Scope) (sp : Sp) (t : TA) : TE := fun σ H Q => Tabs T H ∧
  ∀ (f : Addr) (l : Lam) (H1 : Hp) (cells : List (Str × Addr)), l.q = q ++ "<lambda>" → l.params = params → l.body = body → l.scope = scope → l.clo = cloFrom cells scope.names [] → (∀ y ∈ scope.names, y.2 = .free → ∃ c, cells.lookup y.1 = some c) → (∀ x y c, cells.lookup x = some c → cells.lookup y = some c → x = y) →
    ExtN H H1 → Tabs T H1 → H f = none → H1 f = some (frzP (FnObj l.fd)) → H1 l.c = some (CodeO l.c l.q) →
    t σ H1 fun vs H2 => ∀ H3, FrzN N sc l.clo σ H2 H3 → sp (.ref f :: vs) H3 (fun v H4 => Q v (thaw l.S H4)) fun _ _ _ => False
theorem pe_lamN {X : Cx} {N : List Str} {sc : Scope} {q : Str} {T : List (Addr × Str)} {params : Arguments} {body e : Expr} {scope : Scope} {sp : Sp} {t : TA} (h : PE X e (tCallLam X T params body scope sp t)) (hN : X.N = N) (hs : X.env.scope = sc) (hq : X.env.qual = q)
    (hfree : ∀ y ∈ scope.names, y.2 = .free → X.env.kindOf y.1 = some .cell ∨ X.env.kindOf y.1 = some .free) : PE X e (tCallLamN N sc q T params body scope sp t) := by
  subst hN hs hq
  exact ⟨fun pins s σ H Q I z => h.run pins s σ H Q I ⟨z.1, fun f l H1 e1 e2 e3 e4 e5 => z.2 f l H1 X.env.cells e1 e2 e3 e4 e5 (fun y hy e => I.ok.has _ (hfree y hy e)) (fun x y c a b => I.ok.inj x y c a b)⟩⟩
end My

/-! sum(lists, []): the lists, one behind the other, in a new list. -/
namespace PySem
namespace SumL
abbrev lstO (xs : Array Value) (c : Nat) : Obj := { cls := .type "list", dict := none, data := .seq xs c, slots := #[] }
def pre (cont : Nat → Array Value) : Nat → Array Value
  | 0 => #[]
  | i + 1 => pre cont i ++ cont i
section
variable {prog : Program} {w : World} {A : Around} {R : Result → Shared → Prop} {I : Addr} {fp wr : List Addr} {G : Array GenState → Array GenState → Prop} {n : Nat} {P : Nat → Value → Prop} {St : Nat → Shared → Prop}
theorem loop_lists (W : WalksS prog w A.in1 I fp wr G n P St) (cont : Nat → Array Value) (S : Addr) (hSf : S ∉ fp) (hlo : ∀ b ∈ fp, b < S) (hz : ∀ i, i ≤ n → (pre cont i).size ≤ sizeLine) :
    ∀ (k i : Nat) (s : Shared) (T cT c : Nat), n - i = k → i ≤ n → St i s → s.heap.get? S = some (lstO #[.ref T] c) → s.heap.get? T = some (lstO (pre cont i) cT) → T ∉ S :: wr →
    (∀ j v, P j v → ∃ p m, v = .ref p ∧ p ∉ S :: wr ∧ s.heap.get? p = some (lstO (cont j) m)) →
    (∀ s' T' c', Moved (S :: wr) G s s' → s'.heap.get? T' = some (lstO (pre cont n) c') → (T' = T ∧ i = n ∨ S < T') → R (.ok (.ret (.ref T'))) s') →
    codeAny (model prog w) A (.builtin "sum.loop" ⟨[.ref I, .ref S, rawInt 2, rawInt 0], []⟩) R s := by
  have hSw : S ∉ wr := fun h => hSf (W.sub _ h)
  have up : ∀ b ∈ wr, b ∈ S :: wr := fun b hb => List.mem_cons_of_mem _ hb
  intro k
  induction k with
  | zero =>
    intro i s T cT c hk hi hst hS hT hTn hP hR
    obtain rfl : i = n := by omega
    refine codeAny_builtin F.entry_sum_loop ?_
    rw [Around.under_plainId F.plain_sum_loop _]
    show wpAny _ A.in1 (seqItems? (.ref S) >>= _) _ _ s
    refine wpAny_bind (wpAny_seqItems hS rfl ?_)
    show wpAny _ A.in1 (tryCatch (pyNext (.ref I)) _ >>= _) _ _ s
    refine wpAny_bind (wpAny_tryCatch (W.done s _ _ hst fun s' hm => wpAny_pure ?_))
    exact hR s' T cT ⟨fun b o hb e => hm.heap b o (fun z => hb (up b z)) e, hm.gens, hm.drawn, hm.os, hm.toks⟩ (hm.heap T _ (fun z => hTn (up T z)) hT) (.inl ⟨rfl, rfl⟩)
  | succ k ih =>
    intro i s T cT c hk hi hst hS hT hTn hP hR
    have hlt : i < n := by omega
    refine codeAny_builtin F.entry_sum_loop ?_
    rw [Around.under_plainId F.plain_sum_loop _]
    show wpAny _ A.in1 (seqItems? (.ref S) >>= _) _ _ s
    refine wpAny_bind (wpAny_seqItems hS rfl ?_)
    show wpAny _ A.in1 (tryCatch (pyNext (.ref I)) _ >>= _) _ _ s
    refine wpAny_bind (wpAny_tryCatch (W.item i s _ _ hlt hst fun v s1 hv hst1 hm => ?_))
    obtain ⟨p, m, rfl, hp, ep⟩ := hP i v hv
    have k1 : ∀ b o, b ∉ S :: wr → s.heap.get? b = some o → s1.heap.get? b = some o := fun b o hb e => hm.heap b o (fun z => hb (up b z)) e
    have hS1 := hm.heap S _ hSw hS
    show wpAny _ A.in1 ((holding [Value.ref p] (binaryOp .Add (.ref T) (.ref p))).attempt >>= _) _ _ _
    refine wpAny_bind (wpAny_attempt (wpAny_holding (PySem.P.add_list (k1 T _ hTn hT) (k1 p _ hp ep) ?_ (by have := hz (i + 1) (by omega); simpa [pre] using this))))
    obtain ⟨h1, g1, d1, t1, o1⟩ := s1
    have pk : ∀ b o, h1.get? b = some o → (h1.push { cls := .type "list", data := .seq (pre cont i ++ cont i) }).get? b = some o := fun b o e => Heap.get?_push_of_some _ e
    have eT : (h1.push { cls := .type "list", data := .seq (pre cont i ++ cont i) }).get? h1.objs.size = some (lstO (pre cont (i + 1)) 0) := Heap.get?_push_size _ rfl
    have hS2 := pk _ _ hS1
    show wpAny _ A.in1 (updateSeq S (fun _ => #[.ref h1.objs.size]) >>= _) _ _ _
    refine wpAny_bind (wpAny_updateSeq hS2 rfl ?_)
    have hS3 := Heap.get?_update_self (Obj.mapSeq fun _ => #[Value.ref h1.objs.size]) hS2 rfl
    refine wpAny_bind (wpAny_letGo ?_)
    have neS : S ≠ h1.objs.size := Nat.ne_of_lt (Heap.lt_size hS1)
    have ltS : S < h1.objs.size := Heap.lt_size hS1
    have e3 : ∀ b, b ≠ S → ((h1.push { cls := .type "list", data := .seq (pre cont i ++ cont i) }).update S (Obj.mapSeq fun _ => #[Value.ref h1.objs.size])).get? b = (h1.push { cls := .type "list", data := .seq (pre cont i ++ cont i) }).get? b := fun b hb => Heap.get?_update_other _ _ (Ne.symm hb)
    refine wpAny_bind (wpAny_updateSeq hS3 rfl (wpAny_pure ⟨plainId_quiet F.plain_sum_loop _, ?_⟩))
    have hS4 := Heap.get?_update_self (Obj.mapSeq fun _ => #[Value.ref h1.objs.size]) hS3 rfl
    have e4 : ∀ b, b ≠ S → (((h1.push { cls := .type "list", data := .seq (pre cont i ++ cont i) }).update S (Obj.mapSeq fun _ => #[Value.ref h1.objs.size])).update S (Obj.mapSeq fun _ => #[Value.ref h1.objs.size])).get? b = (h1.push { cls := .type "list", data := .seq (pre cont i ++ cont i) }).get? b := fun b hb => (Heap.get?_update_other _ _ (Ne.symm hb)).trans (e3 b hb)
    have k4 : ∀ b o, b ∉ S :: wr → s.heap.get? b = some o → (((h1.push { cls := .type "list", data := .seq (pre cont i ++ cont i) }).update S (Obj.mapSeq fun _ => #[Value.ref h1.objs.size])).update S (Obj.mapSeq fun _ => #[Value.ref h1.objs.size])).get? b = some o := fun b o hb e =>
      (e4 b (fun z => hb (by rw [z]; exact List.mem_cons_self))).trans (pk _ _ (k1 b o hb e))
    refine ih (i + 1) _ h1.objs.size 0 _ (by omega) hlt (W.frame (i + 1) ⟨h1, g1, d1, t1, o1⟩ _ _ hst1 (Nat.le_refl _) fun b hb o e => (e4 b (fun z => hSf (z ▸ hb))).trans (pk _ _ e)) hS4 ((e4 _ (Ne.symm neS)).trans eT) (fun z => ?_) (fun j v hv => ?_) fun s2 T2 c2 hm2 e2 hor => hR s2 T2 c2 ?_ e2 ?_
    · rcases List.mem_cons.mp z with z | z
      · exact neS z.symm
      · exact Nat.lt_irrefl _ (Nat.lt_trans (hlo _ (W.sub _ z)) ltS)
    · obtain ⟨q, m2, r1, r2, r3⟩ := hP j v hv
      exact ⟨q, m2, r1, r2, k4 q _ r2 r3⟩
    · exact ⟨fun b o hb e => hm2.heap b o hb (k4 b o hb e), W.gtrans _ _ _ hm.gens hm2.gens, hm2.drawn.trans hm.drawn, hm2.os.trans hm.os, Nat.le_trans hm.toks hm2.toks⟩
    · rcases hor with ⟨y, _⟩ | y
      · exact .inr (by rw [y]; exact ltS)
      · exact .inr y
end
section
variable {prog : Program} {w : World} {A : Around} {E : Value → Shared → Prop} {s : Shared}
theorem args2 (a b : Value) : argsOk "sum" ⟨[a, b], []⟩ := by unfold argsOk; kernel_rfl
theorem call_sum2 (hh : A.handled = none) {L T0 : Addr} {items : Array Value} {cont : Nat → Array Value} {c0 : Nat} {Q : Value → Shared → Prop} (hl : s.heap.IsList L items) (hT : s.heap.get? T0 = some (lstO #[] c0))
    (hP : ∀ j v, items[j]? = some v → ∃ p m, v = .ref p ∧ s.heap.get? p = some (lstO (cont j) m)) (hz : ∀ i, i ≤ items.size → (pre cont i).size ≤ sizeLine) (hne : 0 < items.size)
    (h : ∀ h' tk T' c', (∀ b o, s.heap.get? b = some o → h'.get? b = some o) → s.heap.objs.size ≤ T' → h'.get? T' = some (lstO (pre cont items.size) c') → Q (.ref T') { s with heap := h', toks := tk }) :
    wpAny (model prog w) A (call (.builtin "sum") [.ref L, .ref T0]) Q E s := by
  obtain ⟨oL, eL, cL⟩ := id hl
  refine call_function_tree F.kind_sum F.plain_sum F.entry_sum (args2 _ _) ?_
  unfold Builtin.«sum»
  simp only [List.length_cons, List.length_nil]
  rw [if_neg (by decide)]
  refine wpAny_bind (wpAny_of_eq (show Builtin.Builtins.bindParams "sum" ["start"] 0 ⟨[.ref T0], []⟩ = pure [some (.ref T0)] from rfl) ?_)
  refine wpAny_bind (wpAny_pyIter_list hl ?_)
  obtain ⟨hp, g, dr, tk, os⟩ := s
  have k1 : ∀ b o, hp.get? b = some o → (hp.push { cls := .type "list_iterator", data := .fields #[.ref L, .int 0 0] }).get? b = some o := fun b o e => Heap.get?_push_of_some _ e
  have tT : ∀ t : Nat, Shared.TypeIs ⟨hp.push { cls := .type "list_iterator", data := .fields #[.ref L, .int 0 0] }, g, dr, t, os⟩ (.ref T0) "list" := fun t => ⟨_, k1 _ _ hT, rfl⟩
  refine wpAny_bind (wpAny_pure ?_)
  simp only [List.forIn_cons, List.forIn_nil]
  refine wpAny_bind (wpAny_bind (wpAny_bind (wpAny_isInstance (T := "list") (b := false) (tT _) F.sub_list_str ?_)))
  simp only [Bool.false_eq_true, if_false]
  refine wpAny_pure (wpAny_bind (wpAny_bind (wpAny_isInstance (T := "list") (b := false) (tT _) F.sub_list_bytes ?_)))
  simp only [Bool.false_eq_true, if_false]
  refine wpAny_pure (wpAny_bind (wpAny_bind (wpAny_isInstance (T := "list") (b := false) (tT _) F.sub_list_bytearray ?_)))
  simp only [Bool.false_eq_true, if_false]
  refine wpAny_pure (wpAny_pure (wpAny_bind (wpAny_newObj_type ?_)))
  have W := (Walks.list (prog := prog) (w := w) (A := A.in1) hh hp.objs.size L (Nat.ne_of_lt (Heap.lt_size eL)) items).toS
  obtain ⟨h1, hd1⟩ : ∃ h1, h1 = hp.push { cls := .type "list_iterator", data := .fields #[.ref L, .int 0 0] } := ⟨_, rfl⟩
  rw [← hd1] at k1 ⊢
  have eI : h1.get? hp.objs.size = some { cls := .type "list_iterator", data := .fields #[.ref L, .int 0 0] } := by rw [hd1]; exact Heap.get?_push_size _ rfl
  have z1 : h1.objs.size = hp.objs.size + 1 := by rw [hd1, Heap.size_push]
  have k2 : ∀ b o, h1.get? b = some o → (h1.push { cls := .type "list", data := .seq #[.ref T0] }).get? b = some o := fun b o e => Heap.get?_push_of_some _ e
  have lt0 : ∀ {b o}, hp.get? b = some o → b < hp.objs.size := fun e => Heap.lt_size e
  have notIn : ∀ {b o}, hp.get? b = some o → b ∉ [h1.objs.size, hp.objs.size] := fun {b o} e hm => by
    have y := lt0 e
    rcases List.mem_cons.mp hm with q | hm
    · rw [q, z1] at y; exact Nat.lt_irrefl _ (Nat.lt_of_succ_lt y)
    · rw [List.mem_singleton.mp hm] at y; exact Nat.lt_irrefl _ y
  have hlo : ∀ b ∈ [hp.objs.size, L], b < h1.objs.size := fun b hb => by
    rcases List.mem_cons.mp hb with q | hb
    · rw [q, z1]; exact Nat.lt_succ_self _
    · rw [List.mem_singleton.mp hb, z1]; exact Nat.lt_succ_of_lt (lt0 eL)
  refine wpAny_pure ⟨plainId_quiet F.plain_sum_loop _, loop_lists W cont h1.objs.size (fun hm => Nat.lt_irrefl _ (hlo _ hm)) hlo hz items.size 0 _ T0 c0 0 rfl (Nat.zero_le _) ⟨⟨_, k2 _ _ eI, rfl, rfl⟩, ⟨_, k2 _ _ (k1 _ _ eL), cL⟩⟩ (Heap.get?_push_size _ rfl) (k2 _ _ (k1 _ _ hT)) (notIn hT)
    (fun j v hv => ?_) fun s' T' c' hm e hor => ?_⟩
  · obtain ⟨p, m, rfl, e⟩ := hP j v hv
    exact ⟨p, m, rfl, notIn e, k2 _ _ (k1 _ _ e)⟩
  · obtain ⟨h', g', d', t', os'⟩ := s'
    obtain rfl : g' = g := hm.gens
    obtain rfl : d' = dr := hm.drawn
    obtain rfl : os' = os := hm.os
    refine h h' t' T' c' (fun b o q => hm.heap b o (notIn q) (k2 _ _ (k1 _ _ q))) ?_ e
    rcases hor with ⟨_, y⟩ | y
    · omega
    · rw [z1] at y; exact Nat.le_of_lt (Nat.lt_of_succ_lt y)
end
end SumL
end PySem
namespace My
open PySem PySem.Spec PyProof.Rows L2
theorem pre_at {its : List (Array Value)} : ∀ i, i ≤ its.length → SumL.pre (fun j => its.getD j #[]) i = ((its.take i).map Array.toList).flatten.toArray
  | 0, _ => by simp [SumL.pre]
  | i + 1, h => by
    have ih := pre_at (its := its) i (by omega)
    show SumL.pre _ i ++ its.getD i #[] = _
    have e1 : its[i]? = some its[i] := List.getElem?_eq_getElem (by omega)
    rw [ih, List.take_succ, List.getD_eq_getElem?_getD, e1]
    apply Array.toList_inj.mp
    simp only [List.map_append, List.flatten_append, Option.toList_some, List.map_cons, List.map_nil, List.flatten_cons, List.flatten_nil, List.append_nil, Option.getD_some, Array.toList_append]
/-- sum(lists, []): at least one list -/
def rSumL (K : PySem.W.Frag) : List V → Hp → VK → Prop := fun vs H Q => ∃ (a b : Addr) (ps : List (Addr × List V)), vs = [.ref a, .ref b] ∧ SqL K H a (ps.map fun p => V.ref p.1) ∧ H b = some (.lst []) ∧ ps ≠ [] ∧ (∀ p ∈ ps, H p.1 = some (.lst p.2)) ∧
  ((ps.map (·.2)).flatten).length ≤ sizeLine ∧ ∀ p, H p = none → Q (.ref p) (upd H p (.lst (ps.map (·.2)).flatten))
theorem vals_refs {H : L2.Hp} {X : Cx} {pins : List (Addr × Obj)} {σ : L2.St} {s : Shared} (I : Inv X pins σ H s) : ∀ {ps : List (Addr × List V)} {us : List Value}, Vals (ps.map fun p => V.ref p.1) us → (∀ p ∈ ps, H p.1 = some (.lst p.2)) →
    us = ps.map (fun p => Value.ref p.1) ∧ ∃ its : List (List Value), its.length = ps.length ∧ Vals (ps.map (·.2)).flatten its.flatten ∧ ∀ (i : Nat) (p : Addr × List V) (l : List Value), ps[i]? = some p → its[i]? = some l → Vals p.2 l ∧ ∃ m, s.heap.get? p.1 = some (SumL.lstO l.toArray m)
  | [], _, .nil, _ => ⟨rfl, [], rfl, .nil, fun i p l h => by simp at h⟩
  | p :: r, _ :: us, .cons rv rr, h => by
    obtain ⟨e, its, hl, hv, hi⟩ := vals_refs I rr fun q hq => h q (List.mem_cons_of_mem _ hq)
    cases rv
    obtain ⟨_, l, m, rl, _, el⟩ := I.lstM (h p List.mem_cons_self)
    refine ⟨by rw [e]; rfl, l :: its, by simp [hl], ?_, fun i q k h1 h2 => ?_⟩
    · simp only [List.map_cons, List.flatten_cons]
      exact rl.append hv
    · cases i with
      | zero =>
        simp only [List.getElem?_cons_zero, Option.some.injEq] at h1 h2
        subst h1; subst h2
        exact ⟨rl, m, el⟩
      | succ i => exact hi i q k (by simpa using h1) (by simpa using h2)
theorem cr_sumL {X : Cx} (hc : X.calm = true) : CallR X (.builtin "sum") (rSumL X.K) := by
  intro pins s σ H vs us Q I r h
  obtain ⟨a, b, ps, rfl, hs, hb, hne, hp, hz, q⟩ := h
  obtain ⟨its, rv, hl, _⟩ := I.list hs
  cases r with
  | cons ra rr =>
    cases rr with
    | cons rb rn =>
      cases rn; cases ra; cases rb
      obtain ⟨e, ls, hlen, hvals, hi⟩ := vals_refs I rv hp
      subst e
      obtain ⟨_, ib, cb, rib, _, eb⟩ := I.lstM hb
      cases rib
      have hll : (ls.map List.toArray).length = ps.length := by simp [hlen]
      have hsz : (ps.map fun p => Value.ref p.1).toArray.size = ps.length := by simp
      have atAll : SumL.pre (fun j => (ls.map List.toArray).getD j #[]) ps.length = ls.flatten.toArray := by
        rw [pre_at _ (by omega), ← hll, List.take_length]
        simp [List.map_map, Function.comp_def]
      refine SumL.call_sum2 (I.ok.hd hc) hl.isList eb (cont := fun j => (ls.map List.toArray).getD j #[]) (fun j v hv => ?_) (fun i hi' => ?_) (by rw [hsz]; exact List.length_pos_iff.mpr hne) (fun h' tk T' c' kp hT e => ?_)
      · have hj : (ps.map fun p => Value.ref p.1)[j]? = some v := by simpa using hv
        rw [List.getElem?_map] at hj
        cases ep : ps[j]? with
        | none => rw [ep] at hj; cases hj
        | some p =>
          rw [ep] at hj
          cases hj
          have hlt : j < ls.length := by rw [hlen]; exact (List.getElem?_eq_some_iff.mp ep).1
          obtain ⟨_, m, em⟩ := hi j p ls[j] ep (List.getElem?_eq_getElem hlt)
          refine ⟨p.1, m, rfl, ?_⟩
          rw [List.getD_eq_getElem?_getD, List.getElem?_map, List.getElem?_eq_getElem hlt]
          exact em
      · rw [hsz] at hi'
        rw [pre_at _ (by omega), List.size_toArray]
        have e1 := hvals.length
        have e2 : (ls.flatten).length = (((ls.map List.toArray).map Array.toList).flatten).length := by simp [List.map_map, Function.comp_def]
        have e3 : (((ls.map List.toArray).take i).map Array.toList).flatten.length ≤ (((ls.map List.toArray).map Array.toList).flatten).length := by
          conv => rhs; rw [← List.take_append_drop i (ls.map List.toArray)]
          rw [List.map_append, List.flatten_append, List.length_append]
          omega
        omega
      · rw [hsz, atAll] at e
        exact ⟨.ref T', _, I.laid (t' := tk) (o := .lst (ps.map (·.2)).flatten) kp hT ⟨hz, _, c', hvals, e⟩, rfl, q T' (I.hok.fresh hT)⟩
end My

/-! xs == [] and xs != [], whatever is in the list. -/
namespace My
open PySem PySem.Spec PyProof.Rows L2
def rEqNil (K : PySem.W.Frag) : R2 := fun x y H Q => ∃ a b xs, x = .ref a ∧ y = .ref b ∧ SqL K H a xs ∧ SqL K H b [] ∧ Q (.bl xs.isEmpty) H
def rNeNil (K : PySem.W.Frag) : R2 := fun x y H Q => ∃ a b xs, x = .ref a ∧ y = .ref b ∧ SqL K H a xs ∧ SqL K H b [] ∧ Q (.bl (!xs.isEmpty)) H
section
variable {X : Cx}
theorem op_eqNil (hu : X.A.units + 64 < cLine) : OpR X (compareOp .Eq) (rEqNil X.K) := by
  rintro pins s σ H x y v u Q I rx ry ⟨a, b, xs, rfl, rfl, ha, hb, q⟩
  cases xs with
  | nil => exact op_eqD hu pins s σ H _ _ v u Q I rx ry ⟨.list [], .list [], .lst ha .nil, .lst hb .nil, rfl, rfl, q⟩
  | cons z r =>
    cases rx; cases ry
    obtain ⟨its, rv, pa, _⟩ := I.list ha
    obtain ⟨jts, rw_, pb, _⟩ := I.list hb
    cases rw_
    cases rv
    exact SeqAt.RcAt.lists_lengths pa.isList pb.isList (by simp) (by omega) _ _ _ _ ⟨.bl _, H, I, rfl, q⟩
theorem op_neNil (hu : X.A.units + 64 < cLine) : OpR X (compareOp .NotEq) (rNeNil X.K) := by
  rintro pins s σ H x y v u Q I rx ry ⟨a, b, xs, rfl, rfl, ha, hb, q⟩
  cases xs with
  | nil => exact op_neD hu pins s σ H _ _ v u Q I rx ry ⟨.list [], .list [], .lst ha .nil, .lst hb .nil, rfl, rfl, q⟩
  | cons z r =>
    cases rx; cases ry
    obtain ⟨its, rv, pa, _⟩ := I.list ha
    obtain ⟨jts, rw_, pb, _⟩ := I.list hb
    cases rw_
    cases rv
    exact SeqAt.RcNeAt.lists_lengths pa.isList pb.isList (by simp) (by omega) _ _ _ _ ⟨.bl _, H, I, rfl, q⟩
/-- str(x) of a number or a text -/
theorem call_str_V : CallR X (.type "str") (fun xs H Q => ∃ x, xs = [x] ∧ ((∃ i, x = .int i ∧ i.natAbs.log2 < 1920 ∧ Q (.str (toString i)) H) ∨ ∃ a, x = .str a ∧ Q (.str a) H)) := by
  rintro pins s σ H xs us Q I r ⟨x, rfl, ⟨i, rfl, hz, q⟩ | ⟨a, rfl, q⟩⟩
  · exact call_str_int pins s σ H _ us Q I r ⟨i, rfl, hz, q⟩
  · exact SkE.call_str_str pins s σ H _ us Q I r ⟨a, rfl, q⟩
/-- as the layer's own, K told: for use in a comprehension's block -/
theorem call_isiX {K : PySem.W.Frag} (hK : X.K = K := by rfl) : CallR X (.builtin "isinstance") (rIsi K) := by
  subst hK
  exact call_isi
theorem call_list_ofX {K : PySem.W.Frag} (hK : X.K = K := by rfl) : CallR X (.type "list") (fun xs H Q => ∃ p ys, xs = [.ref p] ∧ (SqL K H p ys ∨ SqT K H p ys) ∧ ∀ l, H l = none → Q (.ref l) (upd H l (.lst ys))) := by
  subst hK
  exact call_list_of
end
end My

namespace My
open PySem PySem.Spec PyProof.Rows L2
/-! ### the text -/
def topS (i : Nat) : Stmt := PySem.Challenge.pw_holdsfailsopen_k25_papers_as_text.main.body.getD i (.Pass ⟨0, 0, 0, 0⟩)
abbrev s_is_integer : Stmt := topS 10
abbrev s_read_integer : Stmt := topS 11
abbrev s_is_sign_word : Stmt := topS 20
abbrev s_is_part : Stmt := topS 21
abbrev s_can_be_told : Stmt := topS 22
abbrev s_part_text : Stmt := topS 23
abbrev s_text_of : Stmt := topS 24
abbrev s_paper_text : Stmt := topS 25
abbrev s_words_in : Stmt := topS 26
abbrev s_part_in : Stmt := topS 27
abbrev s_tuple_in : Stmt := topS 28
abbrev s_read_paper : Stmt := topS 29
abbrev s__law_pot : Stmt := topS 31
abbrev s__law_take : Stmt := topS 32
abbrev s__law_of : Stmt := topS 33
abbrev s__law_cells : Stmt := topS 34
abbrev s__law_value : Stmt := topS 35
abbrev s__law_deep : Stmt := topS 36
abbrev s__law_text : Stmt := topS 37
abbrev s__law_caught : Stmt := topS 38
abbrev s__law_is_refused : Stmt := topS 39
abbrev s__law_right : Stmt := topS 40
abbrev s_law : Stmt := topS 41
theorem sc_is_integer : FnScope ["value"] ["value"] (defScope s_is_integer) := ⟨rfl, rfl, rfl, by decide +kernel, rfl, by decide +kernel, by decide +kernel⟩
theorem sc_read_integer : FnScope ["word", "figures", "number", "sign"] ["word"] (defScope s_read_integer) := ⟨rfl, rfl, rfl, by decide +kernel, rfl, by decide +kernel, by decide +kernel⟩
theorem sc_is_sign_word : FnScope ["value", "sign"] ["value"] (defScope s_is_sign_word) := ⟨rfl, rfl, rfl, by decide +kernel, rfl, by decide +kernel, by decide +kernel⟩
theorem sc_is_part : FnScope ["value"] ["value"] (defScope s_is_part) := ⟨rfl, rfl, rfl, by decide +kernel, rfl, by decide +kernel, by decide +kernel⟩
theorem sc_can_be_told : FnScope ["value", "last", "deep", "inner", "one"] ["value"] (defScope s_can_be_told) := ⟨rfl, rfl, rfl, by decide +kernel, rfl, by decide +kernel, by decide +kernel⟩
theorem sc_part_text : FnScope ["value"] ["value"] (defScope s_part_text) := ⟨rfl, rfl, rfl, by decide +kernel, rfl, by decide +kernel, by decide +kernel⟩
theorem sc_text_of : FnScope ["value", "inner", "one"] ["value"] (defScope s_text_of) := ⟨rfl, rfl, rfl, by decide +kernel, rfl, by decide +kernel, by decide +kernel⟩
theorem sc_paper_text : FnScope ["paper"] ["paper"] (defScope s_paper_text) := ⟨rfl, rfl, rfl, by decide +kernel, rfl, by decide +kernel, by decide +kernel⟩
theorem sc_words_in : FnScope ["text", "found", "at", "end"] ["text"] (defScope s_words_in) := ⟨rfl, rfl, rfl, by decide +kernel, rfl, by decide +kernel, by decide +kernel⟩
theorem sc_part_in : FnScope ["word", "number"] ["word"] (defScope s_part_in) := ⟨rfl, rfl, rfl, by decide +kernel, rfl, by decide +kernel, by decide +kernel⟩
theorem sc_tuple_in : FnScope ["words", "open_ones", "found", "word", "one"] ["words"] (defScope s_tuple_in) := ⟨rfl, rfl, rfl, by decide +kernel, rfl, by decide +kernel, by decide +kernel⟩
theorem sc_read_paper : FnScope ["text", "found"] ["text"] (defScope s_read_paper) := ⟨rfl, rfl, rfl, by decide +kernel, rfl, by decide +kernel, by decide +kernel⟩
theorem sc__law_pot : FnScope ["script", "place", "cell", "own", "small"] ["script", "place"] (defScope s__law_pot) := ⟨rfl, rfl, rfl, by decide +kernel, rfl, by decide +kernel, by decide +kernel⟩
theorem sc__law_take : FnScope ["pot", "upto", "digit", "prime", "blend"] ["pot", "upto"] (defScope s__law_take) := ⟨rfl, rfl, rfl, by decide +kernel, rfl, by decide +kernel, by decide +kernel⟩
theorem sc__law_of : FnScope ["pot", "some"] ["pot", "some"] (defScope s__law_of) := ⟨rfl, rfl, rfl, by decide +kernel, rfl, by decide +kernel, by decide +kernel⟩
theorem sc__law_cells : FnScope ["script", "most"] ["script", "most"] (defScope s__law_cells) := ⟨rfl, rfl, rfl, by decide +kernel, rfl, by decide +kernel, by decide +kernel⟩
theorem sc__law_value : FnScope ["pot", "deep", "some", "found", "lap"] ["pot", "deep"] (defScope s__law_value) := ⟨rfl, rfl, rfl, by decide +kernel, rfl, by decide +kernel, by decide +kernel⟩
theorem sc__law_deep : FnScope ["pot", "many", "value", "lap"] ["pot", "many"] (defScope s__law_deep) := ⟨rfl, rfl, rfl, by decide +kernel, rfl, by decide +kernel, by decide +kernel⟩
theorem sc__law_text : FnScope ["value", "one"] ["value"] (defScope s__law_text) := ⟨rfl, rfl, rfl, by decide +kernel, rfl, by decide +kernel, by decide +kernel⟩
theorem sc__law_caught : FnScope ["call", "caught", "error"] ["call"] (defScope s__law_caught) := ⟨rfl, rfl, rfl, by decide +kernel, rfl, by decide +kernel, by decide +kernel⟩
theorem sc__law_is_refused : FnScope ["call", "value", "caught"] ["call", "value"] (defScope s__law_is_refused) := ⟨rfl, rfl, rfl, by decide +kernel, rfl, by decide +kernel, by decide +kernel⟩
theorem sc__law_right : FnScope ["pot", "value", "text", "deep", "odd", "place", "sign", "some", "other", "told", "bad"] ["pot"] (defScope s__law_right) := ⟨rfl, rfl, rfl, by decide +kernel, rfl, by decide +kernel, by decide +kernel⟩
theorem sc_law : FnScope ["script", "place", "pot", "lap"] ["script"] (defScope s_law) := ⟨rfl, rfl, rfl, by decide +kernel, rfl, by decide +kernel, by decide +kernel⟩
/-- what the top has written -/
structure Txt (P : Program) (K : PySem.W.Frag) (mg : Str → Option Value) (A : Nat → Addr) (D : Nat → FuncData) : Prop where
  F_is_integer : Fun K "is_integer" "is_integer" s_is_integer (A 0) (D 0)
  g_is_integer : mg "is_integer" = some (.ref (A 0))
  b_is_integer : Binds K (D 0) ["value"] []
  F_read_integer : Fun K "read_integer" "read_integer" s_read_integer (A 1) (D 1)
  g_read_integer : mg "read_integer" = some (.ref (A 1))
  b_read_integer : Binds K (D 1) ["word"] []
  F_is_sign_word : Fun K "is_sign_word" "is_sign_word" s_is_sign_word (A 2) (D 2)
  g_is_sign_word : mg "is_sign_word" = some (.ref (A 2))
  b_is_sign_word : Binds K (D 2) ["value"] []
  F_is_part : Fun K "is_part" "is_part" s_is_part (A 3) (D 3)
  g_is_part : mg "is_part" = some (.ref (A 3))
  b_is_part : Binds K (D 3) ["value"] []
  F_can_be_told : Fun K "can_be_told" "can_be_told" s_can_be_told (A 4) (D 4)
  g_can_be_told : mg "can_be_told" = some (.ref (A 4))
  b_can_be_told : Binds K (D 4) ["value"] []
  F_part_text : Fun K "part_text" "part_text" s_part_text (A 5) (D 5)
  g_part_text : mg "part_text" = some (.ref (A 5))
  b_part_text : Binds K (D 5) ["value"] []
  F_text_of : Fun K "text_of" "text_of" s_text_of (A 6) (D 6)
  g_text_of : mg "text_of" = some (.ref (A 6))
  b_text_of : Binds K (D 6) ["value"] []
  F_paper_text : Fun K "paper_text" "paper_text" s_paper_text (A 7) (D 7)
  g_paper_text : mg "paper_text" = some (.ref (A 7))
  b_paper_text : Binds K (D 7) ["paper"] []
  kb_paper_text : KBinds K (D 7) ["paper"] ["paper"] (fun us ws => us ++ ws) (fun us zs => us ++ zs)
  F_words_in : Fun K "words_in" "words_in" s_words_in (A 8) (D 8)
  g_words_in : mg "words_in" = some (.ref (A 8))
  b_words_in : Binds K (D 8) ["text"] []
  F_part_in : Fun K "part_in" "part_in" s_part_in (A 9) (D 9)
  g_part_in : mg "part_in" = some (.ref (A 9))
  b_part_in : Binds K (D 9) ["word"] []
  F_tuple_in : Fun K "tuple_in" "tuple_in" s_tuple_in (A 10) (D 10)
  g_tuple_in : mg "tuple_in" = some (.ref (A 10))
  b_tuple_in : Binds K (D 10) ["words"] []
  F_read_paper : Fun K "read_paper" "read_paper" s_read_paper (A 11) (D 11)
  g_read_paper : mg "read_paper" = some (.ref (A 11))
  b_read_paper : Binds K (D 11) ["text"] []
  kb_read_paper : KBinds K (D 11) ["text"] ["text"] (fun us ws => us ++ ws) (fun us zs => us ++ zs)
  F__law_pot : Fun K "_law_pot" "_law_pot" s__law_pot (A 12) (D 12)
  g__law_pot : mg "_law_pot" = some (.ref (A 12))
  b__law_pot : Binds K (D 12) ["script", "place"] []
  F__law_take : Fun K "_law_take" "_law_take" s__law_take (A 13) (D 13)
  g__law_take : mg "_law_take" = some (.ref (A 13))
  b__law_take : Binds K (D 13) ["pot", "upto"] []
  F__law_of : Fun K "_law_of" "_law_of" s__law_of (A 14) (D 14)
  g__law_of : mg "_law_of" = some (.ref (A 14))
  b__law_of : Binds K (D 14) ["pot", "some"] []
  F__law_cells : Fun K "_law_cells" "_law_cells" s__law_cells (A 15) (D 15)
  g__law_cells : mg "_law_cells" = some (.ref (A 15))
  b__law_cells : Binds K (D 15) ["script", "most"] []
  F__law_value : Fun K "_law_value" "_law_value" s__law_value (A 16) (D 16)
  g__law_value : mg "_law_value" = some (.ref (A 16))
  b__law_value : Binds K (D 16) ["pot", "deep"] []
  F__law_deep : Fun K "_law_deep" "_law_deep" s__law_deep (A 17) (D 17)
  g__law_deep : mg "_law_deep" = some (.ref (A 17))
  b__law_deep : Binds K (D 17) ["pot", "many"] []
  F__law_text : Fun K "_law_text" "_law_text" s__law_text (A 18) (D 18)
  g__law_text : mg "_law_text" = some (.ref (A 18))
  b__law_text : Binds K (D 18) ["value"] []
  F__law_caught : Fun K "_law_caught" "_law_caught" s__law_caught (A 19) (D 19)
  g__law_caught : mg "_law_caught" = some (.ref (A 19))
  b__law_caught : Binds K (D 19) ["call"] []
  F__law_is_refused : Fun K "_law_is_refused" "_law_is_refused" s__law_is_refused (A 20) (D 20)
  g__law_is_refused : mg "_law_is_refused" = some (.ref (A 20))
  b__law_is_refused : Binds K (D 20) ["call", "value"] []
  F__law_right : Fun K "_law_right" "_law_right" s__law_right (A 21) (D 21)
  g__law_right : mg "_law_right" = some (.ref (A 21))
  b__law_right : Binds K (D 21) ["pot"] []
  F_law : Fun K "law" "law" s_law (A 22) (D 22)
  g_law : mg "law" = some (.ref (A 22))
  b_law : Binds K (D 22) ["script"] []
  n_len : mg "len" = none
  n_int : mg "int" = none
  n_bool : mg "bool" = none
  n_str : mg "str" = none
  n_tuple : mg "tuple" = none
  n_list : mg "list" = none
  n_abs : mg "abs" = none
  n_max : mg "max" = none
  n_min : mg "min" = none
  n_sum : mg "sum" = none
  n_all : mg "all" = none
  n_isinstance : mg "isinstance" = none
  n_range : mg "range" = none
  n_repr : mg "repr" = none
  n_ValueError : mg "ValueError" = none
  c_SMALL : ∃ u, mg "SMALL" = some u ∧ RelV (.str "abcdefghijklmnopqrstuvwxyz") u
  c_FIGURES : ∃ u, mg "FIGURES" = some u ∧ RelV (.str "0123456789") u
  c_MOST_FIGURES : ∃ u, mg "MOST_FIGURES" = some u ∧ RelV (.int 300) u
  c_MINUS : ∃ u, mg "MINUS" = some u ∧ RelV (.str "-") u
  c_DOT : ∃ u, mg "DOT" = some u ∧ RelV (.str ".") u
  c_OPENING : ∃ u, mg "OPENING" = some u ∧ RelV (.str "(") u
  c_CLOSING : ∃ u, mg "CLOSING" = some u ∧ RelV (.str ")") u
  c_BRACKETS : ∃ u, mg "BRACKETS" = some u ∧ RelV (.str "()") u
  c_NONE : ∃ u, mg "NONE" = some u ∧ RelV (.str "!") u
  c_EMPTY : ∃ u, mg "EMPTY" = some u ∧ RelV (.str "-") u
  c_BLANK : ∃ u, mg "BLANK" = some u ∧ RelV (.str " ") u
  c_MOST_DEEP : ∃ u, mg "MOST_DEEP" = some u ∧ RelV (.int 12) u
  c_BEYOND : ∃ u, mg "BEYOND" = some u ∧ RelV (.int (10 ^ 300)) u
  base : PySem.LabX.BaseTxt P K (A 40) (A 41)
  lab : PySem.LabX.ClsTxt K (A 40) (A 40) (A 41)
  bad : PySem.LabX.ClsTxt K (A 42) (A 40) (A 41)
  g_LabError : mg "LabError" = some (.ref (A 40))
  g_BadPaper : mg "BadPaper" = some (.ref (A 42))
  x_bad : PySem.W.exmOne K (.ref (A 42)) (.ref (A 40)) = some true
  i_bad : PySem.W.kitOne K (.ref (A 42)) (.type "ValueError") = some true
  code : (D 21).code = .ref (A 43)

theorem Txt.xf {P : Program} {K : PySem.W.Frag} {mg : Str → Option Value} {A : Nat → Addr} {D : Nat → FuncData} (T : Txt P K mg A D) : XfC K (A 42) := ⟨T.bad.ga, T.bad.gg, T.bad.exC, T.bad.hdC⟩
end My

namespace My
open PySem PySem.Spec PyProof.Rows L2
theorem fmod_lo {i u : Int} (h : 0 < u) : 0 ≤ i.fmod u := by rw [Int.fmod_eq_emod_of_nonneg _ (by omega)]; exact Int.emod_nonneg _ (by omega)
theorem fmod_hi {i u : Int} (h : 0 < u) : i.fmod u < u := by rw [Int.fmod_eq_emod_of_nonneg _ (by omega)]; exact Int.emod_lt_of_pos _ h
theorem abs_lt {i : Int} {n : Nat} (h0 : 0 ≤ i) (h : i < 2 ^ n) : i.natAbs < 2 ^ n := by
  have e : (i.natAbs : Int) = i := by omega
  have z : ((2 ^ n : Nat) : Int) = 2 ^ n := by simp
  omega
def primes : List V := [.int 2147483647, .int 2147483629, .int 2147483587, .int 2147483579, .int 2147483563]
theorem prime_at {i : Int} (h0 : 0 ≤ i) (h1 : i < 5) : ∃ pr : Int, atI primes i = some (.int pr) ∧ 0 < pr ∧ pr < 2 ^ 31 := by
  have c : i = 0 ∨ i = 1 ∨ i = 2 ∨ i = 3 ∨ i = 4 := by omega
  rcases c with rfl | rfl | rfl | rfl | rfl
  · exact ⟨2147483647, atI_nat (j := 0) rfl, by decide, by decide⟩
  · exact ⟨2147483629, atI_nat (j := 1) rfl, by decide, by decide⟩
  · exact ⟨2147483587, atI_nat (j := 2) rfl, by decide, by decide⟩
  · exact ⟨2147483579, atI_nat (j := 3) rfl, by decide, by decide⟩
  · exact ⟨2147483563, atI_nat (j := 4) rfl, by decide, by decide⟩
section
variable {P : Program} {w : World} {K : PySem.W.Frag} {mg : Str → Option Value} {base : Heap} {A : Nat → Addr} {D : Nat → FuncData}
theorem ok_take (T : Txt P K mg A D) : FnG P w K mg base CX0 1 (A 13) (D 13) ["pot", "upto"] spTake := by
  refine def_ok0 T.F__law_take sc__law_take (fun vs H Q E h => ?_) (fun cdv Ar outer s H vs Q E hr hG h => ?_)
  · obtain ⟨p, u, n, rfl, _⟩ := h; rfl
  · obtain ⟨p, u, n, rfl, ⟨own, small, cnt, hp, h0, h1, h2, h3, h4, h5⟩, hn, hu, hu2, q⟩ := h
    refine ⟨_, (pss_cons (ps_if (pt_cmpR op_gt (pe_ix ix_list (pv 0) pe_int (fun _ _ => rfl)) pe_int (nomark _)) (pss_cons (ps_set (i := 2) sc__law_take.nd rfl (Or.inl rfl) (pe_op op_modN (pe_callTy call_int1 (by rfl) T.n_int (by decide +kernel) (pa_cons (pe_ix ix_list (pv 0) pe_int (fun _ _ => rfl)) pa_nil)) (pv 1)))
      (pss_cons (ps_asg (pe_op op_fdivW (pe_ix ix_list (pv 0) pe_int (fun _ _ => rfl)) (pv 1)) (pg_sub (pv 0) pe_int set_list))
      (pss_one (ps_ret (pv 2))))) pss_nil)
      (pss_cons (ps_asg (pe_op op_add (pe_ix ix_list (pv 0) pe_int (fun _ _ => rfl)) pe_int) (pg_sub (pv 0) pe_int set_list))
      (pss_cons (ps_set (i := 3) sc__law_take.nd rfl (Or.inl rfl) (pe_ix ix_list (pe_lst (pa_cons pe_int (pa_cons pe_int (pa_cons pe_int (pa_cons pe_int (pa_cons pe_int pa_nil)))))) (pe_op op_modN (pe_callTy call_int1 (by rfl) T.n_int (by decide +kernel) (pa_cons (pe_ix ix_list (pv 0) pe_int (fun _ _ => rfl)) pa_nil)) pe_int) (fun _ _ => rfl)))
      (pss_cons (ps_set (i := 4) sc__law_take.nd rfl (Or.inl rfl) (pe_op op_modN (pe_callTy call_int1 (by rfl) T.n_int (by decide +kernel) (pa_cons (pe_op op_powB (pe_callTy call_int1 (by rfl) T.n_int (by decide +kernel) (pa_cons (pe_op op_add (pe_op op_add (pe_ix ix_list (pv 0) pe_int (fun _ _ => rfl)) (pe_op op_mulW (pe_op op_mulW pe_int (pe_ix ix_list (pv 0) pe_int (fun _ _ => rfl))) (pe_ix ix_list (pv 0) pe_int (fun _ _ => rfl)))) pe_int) pa_nil)) pe_int) pa_nil)) (pv 3)))
      (pss_cons (ps_set (i := 4) sc__law_take.nd rfl (Or.inl rfl) (pe_op op_modN (pe_callTy call_int1 (by rfl) T.n_int (by decide +kernel) (pa_cons (pe_op op_mulW (pv 4) (pe_op op_add (pe_op op_modN (pe_callTy call_int1 (by rfl) T.n_int (by decide +kernel) (pa_cons (pv 4) pa_nil)) pe_int) (pe_op op_mulW pe_int (pe_ix ix_list (pv 0) pe_int (fun _ _ => rfl))))) pa_nil)) pe_int))
      (pss_one (ps_ret (pe_op op_modN (pe_callTy call_int1 (by rfl) T.n_int (by decide +kernel) (pa_cons (pe_op op_fdivW (pv 4) pe_int) pa_nil)) (pv 1))))))))), ?_⟩
    have at0 : ∀ x y z : V, atI [x, y, z] 0 = some x := fun _ _ _ => atI_nat (j := 0) rfl
    have at1 : ∀ x y z : V, atI [x, y, z] 1 = some y := fun _ _ _ => atI_nat (j := 1) rfl
    have at2 : ∀ x y z : V, atI [x, y, z] 2 = some z := fun _ _ _ => atI_nat (j := 2) rfl
    refine ⟨.ref p, rfl, p, _, 0, .int own, rfl, rfl, SqL.of hp, at0 _ _ _, own, 0, rfl, rfl, _, rfl, ite2 (fun e => ?_) (fun e => ?_)⟩
    · have e : 0 < own := of_decide_eq_true e
      refine ⟨.ref p, rfl, p, _, 0, .int own, rfl, rfl, SqL.of hp, at0 _ _ _, .inl ⟨own, rfl, .int u, rfl, own, u, rfl, rfl, (by show u ≠ 0; omega), ?_⟩⟩
      refine ⟨.ref p, rfl, p, _, 0, .int own, rfl, rfl, SqL.of hp, at0 _ _ _, .int u, rfl, own, u, rfl, rfl, wide_div hu (abs_lt (by omega) hu2) (by decide) (by decide), ?_⟩
      refine ⟨.ref p, rfl, p, _, 0, 0, rfl, rfl, hp, rfl, ?_⟩
      refine ⟨_, rfl, q _ _ (fmod_lo hu) (fmod_hi hu) But.upd ⟨own / u, small, cnt, upd_same, Int.ediv_nonneg h0 (by omega), ?_, h2, h3, h4, by omega⟩⟩
      exact Int.lt_of_le_of_lt (Int.ediv_le_self _ h0) h1
    · have hc : 0 ≤ cnt + 1 ∧ cnt + 1 < 2 ^ 61 := by omega
      have kc := abs_lt hc.1 hc.2
      have hp1 : (upd H p (.lst [.int own, .int small, .int (cnt + 1)])) p = some (.lst [.int own, .int small, .int (cnt + 1)]) := upd_same
      have b1 : But p H (upd H p (.lst [.int own, .int small, .int (cnt + 1)])) := But.upd
      refine ⟨.ref p, rfl, p, _, 2, .int cnt, rfl, rfl, SqL.of hp, at2 _ _ _, cnt, 1, rfl, rfl, .ref p, rfl, p, _, 2, 2, rfl, rfl, hp, rfl, ?_⟩
      refine ⟨(by show 5 ≤ sizeLine; decide), fun l hl => ?_⟩
      have npl : p ≠ l := ne_of_none hp1 hl
      have hp2 : (upd (upd H p (.lst [.int own, .int small, .int (cnt + 1)])) l (.lst primes)) p = some (.lst [.int own, .int small, .int (cnt + 1)]) := by rw [upd_ne npl]; exact hp1
      have b2 : But p H (upd (upd H p (.lst [.int own, .int small, .int (cnt + 1)])) l (.lst primes)) := b1.trans (But.of (same_upd hl))
      have r0 := fmod_lo (i := (cnt + 1)) (u := 5) (by decide)
      have r1 := fmod_hi (i := (cnt + 1)) (u := 5) (by decide)
      obtain ⟨pr, e1, e2, e3⟩ := prime_at r0 r1
      refine ⟨.ref p, rfl, p, _, 2, .int (cnt + 1), rfl, rfl, SqL.of hp2, at2 _ _ _, .inl ⟨(cnt + 1), rfl, (cnt + 1), 5, rfl, rfl, (show (5 : Int) ≠ 0 by decide), l, primes, (cnt + 1).fmod 5, .int pr, rfl, rfl, SqL.of upd_same, e1, ?_⟩⟩
      -- blend
      have m1 : CMulW 127169 (cnt + 1) := wide_mul (a := 20) (b := 61) (by decide) kc (by decide) (by decide) (by decide)
      have l1 : (127169 * (cnt + 1)).natAbs < 2 ^ (20 + 61) := wide_lt (by decide) kc
      have m2 : CMulW (127169 * (cnt + 1)) (cnt + 1) := wide_mul l1 kc (by decide) (by decide) (by decide)
      have l2 : (127169 * (cnt + 1) * (cnt + 1)).natAbs < 2 ^ (20 + 61 + 61) := wide_lt l1 kc
      have l3 : (small + 127169 * (cnt + 1) * (cnt + 1) + 7405).natAbs < 2 ^ 150 := by omega
      refine ⟨.ref p, rfl, p, _, 1, .int small, rfl, rfl, SqL.of hp2, at1 _ _ _, .ref p, rfl, p, _, 2, .int (cnt + 1), rfl, rfl, SqL.of hp2, at2 _ _ _, 127169, (cnt + 1), rfl, rfl, m1, ?_⟩
      refine ⟨.ref p, rfl, p, _, 2, .int (cnt + 1), rfl, rfl, SqL.of hp2, at2 _ _ _, _, (cnt + 1), rfl, rfl, m2, small, _, rfl, rfl, _, 7405, rfl, rfl, .inl ⟨_, rfl, _, 3, rfl, rfl, powB 150 l3 (by decide) (by decide) (by decide), .inl ⟨_, rfl, .int pr, rfl, _, pr, rfl, rfl, (by show pr ≠ 0; omega), ?_⟩⟩⟩
      have g0 := fmod_lo (i := (small + 127169 * (cnt + 1) * (cnt + 1) + 7405) ^ (3 : Int).toNat) e2
      have g1 := fmod_hi (i := (small + 127169 * (cnt + 1) * (cnt + 1) + 7405) ^ (3 : Int).toNat) e2
      obtain ⟨b, hb⟩ : ∃ b, b = ((small + 127169 * (cnt + 1) * (cnt + 1) + 7405) ^ (3 : Int).toNat).fmod pr := ⟨_, rfl⟩
      rw [← hb] at g0 g1
      have kb : b.natAbs < 2 ^ 31 := abs_lt g0 (by omega)
      have r2 := fmod_lo (i := b) (u := 34467) (by decide)
      have r3 := fmod_hi (i := b) (u := 34467) (by decide)
      have m3 : CMulW 4163 (cnt + 1) := wide_mul (a := 20) (b := 61) (by decide) kc (by decide) (by decide) (by decide)
      have l4 : (4163 * (cnt + 1)).natAbs < 2 ^ (20 + 61) := wide_lt (by decide) kc
      have l5 : (b.fmod 34467 + 4163 * (cnt + 1)).natAbs < 2 ^ 90 := by omega
      have m4 : CMulW b (b.fmod 34467 + 4163 * (cnt + 1)) := wide_mul kb l5 (by decide) (by decide) (by decide)
      refine ⟨_, rfl, _, rfl, .inl ⟨_, rfl, _, 34467, rfl, rfl, (show (34467 : Int) ≠ 0 by decide), .ref p, rfl, p, _, 2, .int (cnt + 1), rfl, rfl, SqL.of hp2, at2 _ _ _, 4163, (cnt + 1), rfl, rfl, m3, _, _, rfl, rfl, _, _, rfl, rfl, (by rw [← hb]; exact m4), .inl ⟨_, rfl, _, 2305843009213693907, rfl, rfl, (show (2305843009213693907 : Int) ≠ 0 by decide), ?_⟩⟩⟩
      refine ⟨_, rfl, _, 11065, rfl, rfl, wide_div (b := 14) (by decide) (by decide) (by decide) (by decide), .inl ⟨_, rfl, .int u, rfl, _, u, rfl, rfl, (by show u ≠ 0; omega), ?_⟩⟩
      exact q _ _ (fmod_lo hu) (fmod_hi hu) b2 ⟨own, small, (cnt + 1), hp2, h0, h1, h2, h3, by omega, by omega⟩
end
end My

namespace My
open PySem PySem.Spec PyProof.Rows L2
theorem cut_to1 (ns : List Int) : cutV (ns.map V.int) none (some 1) = (ns.take 1).map V.int := by
  unfold cutV
  cases ns with
  | nil => rfl
  | cons x r =>
    rw [HT.sIx_none, show HT.sIx ((x :: r).map V.int).length ((x :: r).map V.int).length (some 1) = min 1 ((x :: r).map V.int).length from HT.sIx_nat _ _ 1]
    rfl
theorem atI_some {xs : List V} {i : Int} (h0 : 0 ≤ i) (h1 : i < xs.length) : ∃ x, x ∈ xs ∧ atI xs i = some x := by
  obtain ⟨j, rfl⟩ : ∃ j : Nat, i = j := ⟨i.toNat, by omega⟩
  have hj : j < xs.length := by omega
  exact ⟨xs[j], List.getElem_mem hj, atI_nat (List.getElem?_eq_getElem hj)⟩
section
variable {P : Program} {w : World} {K : PySem.W.Frag} {mg : Str → Option Value} {base : Heap} {A : Nat → Addr} {D : Nat → FuncData}
theorem ok_of (T : Txt P K mg A D) : FnG P w K mg base CX0 2 (A 14) (D 14) ["pot", "some"] (spOf K) := by
  have G__law_take := ok_take (P := P) (w := w) (base := base) T
  refine def_ok0 T.F__law_of sc__law_of (fun vs H Q E h => ?_) (fun cdv Ar outer s H vs Q E hr hG h => ?_)
  · obtain ⟨p, u, xs, n, rfl, _⟩ := h; rfl
  · obtain ⟨p, a, xs, n, rfl, hp, hn, ne, hS, hne, hz, q⟩ := h
    refine ⟨_, (pss_one (ps_ret (pe_ix ix_list (pv 1) (pe_cg G__law_take (hr.mono (by first | decide | omega)) hG (by rfl) T.g__law_take T.F__law_take.kp T.b__law_take pass0 (pa_cons (pv 0) (pa_cons (pe_callB call_len_seq (by rfl) T.n_len PySem.boot_len (pa_cons (pv 1) pa_nil)) pa_nil))) (fun _ _ => rfl)))), ?_⟩
    have hl : 0 < xs.length := List.length_pos_iff.mpr hne
    refine ⟨.ref a, rfl, .ref p, rfl, .ref a, rfl, a, xs, rfl, .inl hS, ?_⟩
    refine ⟨p, xs.length, n, rfl, hp, hn, by omega, by omega, fun i H' h0 h1 b hp' => ?_⟩
    obtain ⟨x, hx, e⟩ := atI_some h0 h1
    exact ⟨a, xs, i, x, rfl, rfl, b.seqL ne hS, e, q x H' hx b hp'⟩
theorem ok_cells (T : Txt P K mg A D) : FnG P w K mg base CX0 1 (A 15) (D 15) ["script", "most"] (spCells K) := by
  refine def_ok0 T.F__law_cells sc__law_cells (fun vs H Q E h => ?_) (fun cdv Ar outer s H vs Q E hr hG h => ?_)
  · obtain ⟨a, ns, m, rfl, _⟩ := h; rfl
  · obtain ⟨a, ns, m, rfl, hS, hl, h0, h1, q⟩ := h
    refine ⟨_, (pss_one (ps_ret (pe_listRg rfl (by rfl) T.n_list (prg_1 (by rfl) T.n_range (pe_callB (call_max2 rfl) (by rfl) T.n_max (by decide +kernel) (pa_cons pe_int (pa_cons (pe_callB (call_min2 rfl) (by rfl) T.n_min (by decide +kernel) (pa_cons (pv 1) (pa_cons (pe_callB call_len_seq (by rfl) T.n_len PySem.boot_len (pa_cons (pv 0) pa_nil)) pa_nil))) pa_nil))))))), ?_⟩
    have el : ((ns.map V.int).length : Int) = ns.length := by rw [List.length_map]
    refine ⟨.int m, rfl, .ref a, rfl, a, _, rfl, .inl hS, m, _, rfl, 1, _, rfl, _, rfl, ?_, ?_⟩
    · rw [el]; refine RgOk.of_le (by decide) ?_ (by decide) ?_ <;> (split <;> split <;> omega)
    · intro p hp
      refine q p _ _ (same_upd hp) hp ?_ ?_ upd_same <;> (rw [el]; split <;> split <;> omega)
theorem ok_pot (T : Txt P K mg A D) : FnG P w K mg base CX0 1 (A 12) (D 12) ["script", "place"] (spPot K) := by
  refine def_ok0 T.F__law_pot sc__law_pot (fun vs H Q E h => ?_) (fun cdv Ar outer s H vs Q E hr hG h => ?_)
  · obtain ⟨a, ns, m, rfl, _⟩ := h; rfl
  · obtain ⟨a, ns, m, rfl, hS, hl, hb, h0, h1, q⟩ := h
    refine ⟨_, (pss_cons (ps_set (i := 2) sc__law_pot.nd rfl (Or.inl rfl) (pe_cut (pe_ifExp (pt_cmpR op_lt (pv 1) (pe_callB call_len_seq (by rfl) T.n_len PySem.boot_len (pa_cons (pv 0) pa_nil)) (nomark _)) (pe_ix ix_list (pv 0) (pv 1) (fun _ _ => rfl)) (pe_op op_add (pe_op op_add (pe_op op_modN (pe_callB (cr_sum rfl) (by rfl) T.n_sum (by decide +kernel) (pa_cons (pe_slice sl_list (pv 0) po_none (po_some pe_int)) pa_nil)) pe_int) (pe_op op_mulW pe_int (pv 1))) pe_int))))
      (pss_cons (ps_set (i := 3) sc__law_pot.nd rfl (Or.inl rfl) (pe_op op_mulW (pe_op op_modN (pe_callTy call_int1 (by rfl) T.n_int (by decide +kernel) (pa_cons (pe_callB call_abs (by rfl) T.n_abs (by decide +kernel) (pa_cons (pv 2) pa_nil)) pa_nil)) (pe_op op_powB (pe_op op_powB pe_int pe_int) pe_int)) (pe_callTy call_int1 (by rfl) T.n_int (by decide +kernel) (pa_cons (pe_cmpR op_ge (pe_callB call_abs (by rfl) T.n_abs (by decide +kernel) (pa_cons (pv 2) pa_nil)) (pe_op op_powB pe_int pe_int) (nomark _)) pa_nil))))
      (pss_cons (ps_set (i := 4) sc__law_pot.nd rfl (Or.inl rfl) (pe_op op_modN (pe_callTy call_int1 (by rfl) T.n_int (by decide +kernel) (pa_cons (pv 2) pa_nil)) pe_int))
      (pss_one (ps_ret (pe_lst (pa_cons (pv 3) (pa_cons (pe_op op_modN (pe_callTy call_int1 (by rfl) T.n_int (by decide +kernel) (pa_cons (pe_op op_add (pe_op op_add (pe_op op_mulW (pv 4) pe_int) (pe_op op_mulW (pe_op op_mulW pe_int (pv 1)) (pv 1))) pe_int) pa_nil)) pe_int) (pa_cons pe_int pa_nil))))))))), ?_⟩
    have el : ((ns.map V.int).length : Int) = ns.length := by rw [List.length_map]
    refine ⟨fun v H' => ∃ cell, v = .int cell ∧ Same H H', ?_, ?_⟩
    · refine ⟨.int m, rfl, .ref a, rfl, a, _, rfl, .inl hS, m, _, rfl, rfl, _, rfl, ite2 (fun e => ?_) (fun e => ?_)⟩
      · obtain ⟨x, hx, ex⟩ := atI_some h0 (of_decide_eq_true e)
        obtain ⟨z, hz, rfl⟩ := List.mem_map.mp hx
        exact ⟨.ref a, rfl, .int m, rfl, a, _, m, .int z, rfl, rfl, hS, ex, z, rfl, Same.refl _⟩
      · refine ⟨.ref a, rfl, 1, rfl, a, _, rfl, hS, fun c nc => ?_⟩
        refine ⟨c, ns.take 1, rfl, ?_, _, 1000003, rfl, rfl, (show (1000003 : Int) ≠ 0 by decide), .int m, rfl, 39075, m, rfl, rfl, ?_, _, _, rfl, rfl, _, 11465, rfl, rfl, _, rfl, same_upd nc⟩
        · rw [cut_to1] <;> exact SqL.of upd_same
        · exact wide_mul (a := 20) (b := 10) (by decide) (abs_lt h0 (by omega)) (by decide) (by decide) (by decide)
    · rintro v H1 ⟨cell, rfl, sm⟩
      have M0 : (0 : Int) < ((10 : Int) ^ (60 : Int).toNat) ^ (5 : Int).toNat := by decide +kernel
      have M1 : ((10 : Int) ^ (60 : Int).toNat) ^ (5 : Int).toNat < 2 ^ 1000 := by decide +kernel
      have pa : CPowB 10 60 := powB 10 (by decide) (by decide) (by decide) (by decide)
      have pb : CPowB ((10 : Int) ^ (60 : Int).toNat) 5 := powB 200 (by decide +kernel) (by decide) (by decide) (by decide)
      have pc : CPowB 10 18 := powB 10 (by decide) (by decide) (by decide) (by decide)
      refine ⟨.int cell, rfl, _, rfl, .inl ⟨_, rfl, 10, 60, rfl, rfl, pa, _, 5, rfl, rfl, pb, _, _, rfl, rfl, (Int.ne_of_gt M0), .int cell, rfl, _, rfl, 10, 18, rfl, rfl, pc, _, _, rfl, rfl, .inr ⟨_, rfl, ?_⟩⟩⟩
      obtain ⟨x, hx⟩ : ∃ x, x = (if cell < 0 then -cell else cell) := ⟨_, rfl⟩
      obtain ⟨bb, hbb⟩ : ∃ bb, bb = decide ((10 : Int) ^ (18 : Int).toNat ≤ x) := ⟨_, rfl⟩
      have g0 := fmod_lo (i := x) M0
      have g1 := fmod_hi (i := x) M0
      rw [hx] at hbb g0 g1
      have gb : (if bb = true then (1 : Int) else 0) = 0 ∨ (if bb = true then (1 : Int) else 0) = 1 := by cases bb <;> simp
      rw [hbb] at gb
      refine ⟨_, _, rfl, rfl, wide_mul (a := 1000) (b := 1) (abs_lt g0 (Int.lt_trans g1 M1)) (by rcases gb with z | z <;> rw [z] <;> decide) (by decide) (by decide) (by decide), ?_⟩
      obtain ⟨own, ho⟩ : ∃ own, own = ((if cell < 0 then -cell else cell).fmod (((10 : Int) ^ (60 : Int).toNat) ^ (5 : Int).toNat)) * (if decide ((10 : Int) ^ (18 : Int).toNat ≤ (if cell < 0 then -cell else cell)) = true then (1 : Int) else 0) := ⟨_, rfl⟩
      have ho0 : 0 ≤ own ∧ own < 2 ^ 1000 := by
        rw [ho]
        rcases gb with z | z <;> rw [z]
        · rw [Int.mul_zero]; exact ⟨by decide, by decide⟩
        · rw [Int.mul_one]; exact ⟨g0, Int.lt_trans g1 M1⟩
      refine ⟨.int cell, rfl, .inl ⟨_, rfl, _, 2305843009213693951, rfl, rfl, (show (2305843009213693951 : Int) ≠ 0 by decide), ?_⟩⟩
      have s0 := fmod_lo (i := cell) (u := 2305843009213693951) (by decide)
      have s1 := fmod_hi (i := cell) (u := 2305843009213693951) (by decide)
      have ks : (cell.fmod 2305843009213693951).natAbs < 2 ^ 61 := abs_lt s0 (by omega)
      have km : m.natAbs < 2 ^ 7 := abs_lt h0 (by omega)
      have kn : (28931 * m).natAbs < 2 ^ 22 := by omega
      refine ⟨_, rfl, _, rfl, _, 129993, rfl, rfl, wide_mul (b := 20) ks (by decide) (by decide) (by decide) (by decide), .int m, rfl, 28931, m, rfl, rfl, wide_mul (a := 20) (by decide) km (by decide) (by decide) (by decide), .int m, rfl, _, m, rfl, rfl, wide_mul kn km (by decide) (by decide) (by decide), _, _, rfl, rfl, _, 14315, rfl, rfl, .inl ⟨_, rfl, _, 2305843009213693921, rfl, rfl, (show (2305843009213693921 : Int) ≠ 0 by decide), (by show 3 ≤ sizeLine; decide), fun p hp => ?_⟩⟩
      have t0 := fmod_lo (i := cell.fmod 2305843009213693951 * 129993 + 28931 * m * m + 14315) (u := 2305843009213693921) (by decide)
      have t1 := fmod_hi (i := cell.fmod 2305843009213693951 * 129993 + 28931 * m * m + 14315) (u := 2305843009213693921) (by decide)
      refine q p _ (sm.trans (same_upd hp)) ?_ ⟨_, _, 0, upd_same, (by rw [← ho]; exact ho0.1), (by rw [← ho]; exact ho0.2), t0, by omega, by decide, by decide⟩
      exact sm.free hp
end
end My

namespace My
open PySem PySem.Spec PyProof.Rows L2
/-- values whose kind is known -/
inductive Known (H : Hp) : V → Prop where
  | non : Known H .non
  | bl (b : Bool) : Known H (.bl b)
  | int (i : Int) : Known H (.int i)
  | str (s : Str) : Known H (.str s)
  | lst {a : Addr} {xs : List V} (e : H a = some (.lst xs)) : Known H (.ref a)
  | tup {a : Addr} {xs : List V} (e : H a = some (.tup xs)) : Known H (.ref a)
  | dct {a : Addr} {kvs : List (Key × V)} (e : H a = some (.dK kvs)) : Known H (.ref a)
def isIntV : V → Bool
  | .int _ => true
  | _ => false
def isBlV : V → Bool
  | .bl _ => true
  | _ => false
def isStrV : V → Bool
  | .str _ => true
  | _ => false
theorem Known.kInt {K : PySem.W.Frag} {H : Hp} {x : V} (k : Known H x) : ∃ t, TyX K H x t ∧ PySem.W.kitOne K t (.type "int") = some (isIntV x || isBlV x) := by
  cases k with
  | non => exact ⟨_, .base .non, by rfl⟩
  | bl b => exact ⟨_, .base (.bl b), by rfl⟩
  | int i => exact ⟨_, .base (.int i), by rfl⟩
  | str s => exact ⟨_, .base (.str s), by rfl⟩
  | lst e => exact ⟨_, .base (.lst e), by rfl⟩
  | tup e => exact ⟨_, .base (.tup e), by rfl⟩
  | dct e => exact ⟨_, .base (.dK e), by rfl⟩
theorem Known.kBool {K : PySem.W.Frag} {H : Hp} {x : V} (k : Known H x) : ∃ t, TyX K H x t ∧ PySem.W.kitOne K t (.type "bool") = some (isBlV x) := by
  cases k with
  | non => exact ⟨_, .base .non, by rfl⟩
  | bl b => exact ⟨_, .base (.bl b), by rfl⟩
  | int i => exact ⟨_, .base (.int i), by rfl⟩
  | str s => exact ⟨_, .base (.str s), by rfl⟩
  | lst e => exact ⟨_, .base (.lst e), by rfl⟩
  | tup e => exact ⟨_, .base (.tup e), by rfl⟩
  | dct e => exact ⟨_, .base (.dK e), by rfl⟩
theorem Known.kStr {K : PySem.W.Frag} {H : Hp} {x : V} (k : Known H x) : ∃ t, TyX K H x t ∧ PySem.W.kitOne K t (.type "str") = some (isStrV x) := by
  cases k with
  | non => exact ⟨_, .base .non, by rfl⟩
  | bl b => exact ⟨_, .base (.bl b), by rfl⟩
  | int i => exact ⟨_, .base (.int i), by rfl⟩
  | str s => exact ⟨_, .base (.str s), by rfl⟩
  | lst e => exact ⟨_, .base (.lst e), by rfl⟩
  | tup e => exact ⟨_, .base (.tup e), by rfl⟩
  | dct e => exact ⟨_, .base (.dK e), by rfl⟩
theorem isInt_and {x : V} (z : (isIntV x || isBlV x) = true) : (!isBlV x) = isIntV x := by cases x <;> simp_all [isIntV, isBlV]
theorem isInt_no {x : V} (z : ¬ (isIntV x || isBlV x) = true) : isIntV x = false := by cases x <;> simp_all [isIntV, isBlV]
/-- no tuple -/
inductive NoTup (H : Hp) : V → Prop where
  | non : NoTup H .non
  | bl (b : Bool) : NoTup H (.bl b)
  | int (i : Int) : NoTup H (.int i)
  | str (s : Str) : NoTup H (.str s)
  | lst {a : Addr} {xs : List V} (e : H a = some (.lst xs)) : NoTup H (.ref a)
  | dct {a : Addr} {kvs : List (Key × V)} (e : H a = some (.dK kvs)) : NoTup H (.ref a)
theorem NoTup.kTup {K : PySem.W.Frag} {H : Hp} {x : V} (k : NoTup H x) : ∃ t, TyX K H x t ∧ PySem.W.kitOne K t (.type "tuple") = some false := by
  cases k with
  | non => exact ⟨_, .base .non, by rfl⟩
  | bl b => exact ⟨_, .base (.bl b), by rfl⟩
  | int i => exact ⟨_, .base (.int i), by rfl⟩
  | str s => exact ⟨_, .base (.str s), by rfl⟩
  | lst e => exact ⟨_, .base (.lst e), by rfl⟩
  | dct e => exact ⟨_, .base (.dK e), by rfl⟩
theorem kTup {K : PySem.W.Frag} {H : Hp} {a : Addr} {xs : List V} (e : H a = some (.tup xs)) : ∃ t, TyX K H (.ref a) t ∧ PySem.W.kitOne K t (.type "tuple") = some true := ⟨_, .base (.tup e), by rfl⟩
theorem Known.same {H H' : Hp} {x : V} (k : Known H x) (s : Same H H') : Known H' x := by
  cases k with
  | non => exact .non
  | bl b => exact .bl b
  | int i => exact .int i
  | str z => exact .str z
  | lst e => exact .lst (s _ _ e)
  | tup e => exact .tup (s _ _ e)
  | dct e => exact .dct (s _ _ e)
/-- is_integer(value), whichever of both -/
def spInt : Sp := fun vs H Q _ => ∃ x, vs = [x] ∧ Known H x ∧ Q (.bl (isIntV x)) H
section
variable {P : Program} {w : World} {K : PySem.W.Frag} {mg : Str → Option Value} {base : Heap} {A : Nat → Addr} {D : Nat → FuncData}
theorem ok_int (T : Txt P K mg A D) : FnG P w K mg base CX0 1 (A 0) (D 0) ["value"] spInt := by
  refine def_ok0 T.F_is_integer sc_is_integer (fun vs H Q E h => ?_) (fun cdv Ar outer s H vs Q E hr hG h => ?_)
  · obtain ⟨x, rfl, _⟩ := h; rfl
  · obtain ⟨x, rfl, k, q⟩ := h
    refine ⟨_, (pss_one (ps_ret (pe_and (pe_callB call_isi (by rfl) T.n_isinstance (by decide +kernel) (pa_cons (pv 0) (pa_cons (pe_bltn (v := .ty "int") (by rfl) T.n_int (by decide +kernel) rfl) pa_nil))) (pe_one (pe_not (pe_callB call_isi (by rfl) T.n_isinstance (by decide +kernel) (pa_cons (pv 0) (pa_cons (pe_bltn (v := .ty "bool") (by rfl) T.n_bool (by decide +kernel) rfl) pa_nil)))))))), ?_⟩
    obtain ⟨t, ty, e1⟩ := k.kInt (K := K)
    obtain ⟨t2, ty2, e2⟩ := k.kBool (K := K)
    refine ⟨x, rfl, x, .ty "int", t, _, _, rfl, .ty _, ty, e1, _, rfl, ?_⟩
    by_cases z : (isIntV x || isBlV x) = true
    · rw [if_pos z]
      refine ⟨x, rfl, x, .ty "bool", t2, _, _, rfl, .ty _, ty2, e2, _, rfl, ?_⟩
      have e := isInt_and z
      rw [e]; exact q
    · rw [if_neg z]
      have e := isInt_no z
      rw [e] at q; exact q
end
end My

namespace My
open PySem PySem.Spec PyProof.Rows L2
/-! ### comprehensions of truth values -/
theorem wipe1 (σ : L2.St) (j : Nat) : wipe σ [j] = σ.set j none := rfl
theorem take_step {α : Type} {l : List α} {i : Nat} {x : α} (h : l[i]? = some x) : l.take (i + 1) = l.take i ++ [x] := by
  rw [List.take_add_one, h]; rfl
/-- over a text -/
theorem lcB_str {x : Str} {te : TE} {j : Nat} {σ : L2.St} {H1 : Hp} {D : Addr} {Qd : Hp → Prop} (f : Nat → Bool) (hD : H1 D = none) (hz : x.length < sizeLine)
    (he : ∀ c, c ∈ x.cps.toList → ∀ (H : Hp) (Q : VK), Same H1 H → (∀ H', Same H H' → Q (.bl (f c)) H') → te ((σ.set j none).set j (some (.str ⟨#[c]⟩))) H Q)
    (hd : ∀ H, Same H1 H → H D = some (.lst ((x.cps.toList.map f).map V.bl)) → Qd H) :
    ∃ W : Nat → Nat → Hp → Prop, (∃ m, W 0 m (upd H1 D (.lst []))) ∧ ∀ i m H, W i m H →
      ((Its x).stop i H ∧ Qd H) ∨ ((Its x).go i H ∧ ∃ Nx : Hp → Prop, (∀ H', Nx H' → ∃ m', m' < m ∧ W (i + 1) m' H') ∧ ∀ y H', (Its x).yld i H y H' → gName j y (wipe σ [j]) H' fun σ2 H2 => wipe σ2 [j] = wipe σ [j] ∧ tYes σ2 H2 fun b H3 =>
        if b = true then te σ2 H3 fun z H4 => ∃ acc, H4 D = some (.lst acc) ∧ acc.length < sizeLine ∧ Nx (upd H4 D (.lst (acc ++ [z]))) else Nx H3) := by
  have sz : x.cps.toList.length = x.length := Array.length_toList
  refine ⟨fun i m H => m = x.length - i ∧ i ≤ x.length ∧ Same H1 H ∧ H D = some (.lst (((x.cps.toList.take i).map f).map V.bl)), ⟨x.length, by simp, Nat.zero_le _, same_upd hD, upd_same⟩, ?_⟩
  rintro i m H ⟨rfl, hi, sm, hl⟩
  by_cases hlt : i < x.length
  · have hc : x.cps.toList[i]? = some x.cps.toList[i] := List.getElem?_eq_getElem (by omega)
    refine .inr ⟨hlt, fun H' => Same H1 H' ∧ H' D = some (.lst (((x.cps.toList.take (i + 1)).map f).map V.bl)), fun H' p => ⟨x.length - (i + 1), by omega, rfl, hlt, p.1, p.2⟩, fun y H' yl => ?_⟩
    obtain ⟨rfl, c, ec, rfl⟩ := yl
    have ec2 : x.cps.toList[i]? = some c := by rw [Array.getElem?_toList]; exact ec
    refine ⟨by simp [wipe1, List.set_set], ?_⟩
    refine he c (List.mem_of_getElem? ec2) H' _ sm fun H2 s2 => ?_
    refine ⟨_, s2 _ _ hl, ?_, fun b o e => ?_, ?_⟩
    · rw [List.length_map, List.length_map, List.length_take]; omega
    · rw [upd_ne (ne_of_none e hD)]; exact s2 _ _ (sm _ _ e)
    · rw [upd_same, take_step ec2, List.map_append, List.map_append]; rfl
  · have e : i = x.length := by omega
    subst e
    refine .inl ⟨Nat.le_refl _, hd H sm ?_⟩
    rw [hl, ← sz, List.take_length]
/-- over a list of texts -/
theorem lcB_list {K : PySem.W.Frag} {a : Addr} {ys : List Str} {te : TE} {j : Nat} {σ : L2.St} {H1 : Hp} {D : Addr} {Qd : Hp → Prop} (f : Str → Bool) (hD : H1 D = none) (hS : SqL K H1 a (ys.map V.str)) (hz : ys.length < sizeLine)
    (he : ∀ y, y ∈ ys → ∀ (H : Hp) (Q : VK), Same H1 H → (∀ H', Same H H' → Q (.bl (f y)) H') → te ((σ.set j none).set j (some (.str y))) H Q)
    (hd : ∀ H, Same H1 H → H D = some (.lst ((ys.map f).map V.bl)) → Qd H) :
    ∃ W : Nat → Nat → Hp → Prop, (∃ m, W 0 m (upd H1 D (.lst []))) ∧ ∀ i m H, W i m H →
      ((Itl K a).stop i H ∧ Qd H) ∨ ((Itl K a).go i H ∧ ∃ Nx : Hp → Prop, (∀ H', Nx H' → ∃ m', m' < m ∧ W (i + 1) m' H') ∧ ∀ y H', (Itl K a).yld i H y H' → gName j y (wipe σ [j]) H' fun σ2 H2 => wipe σ2 [j] = wipe σ [j] ∧ tYes σ2 H2 fun b H3 =>
        if b = true then te σ2 H3 fun z H4 => ∃ acc, H4 D = some (.lst acc) ∧ acc.length < sizeLine ∧ Nx (upd H4 D (.lst (acc ++ [z]))) else Nx H3) := by
  refine lc_list (K := K) (a := a) (xs := ys.map V.str) (vs := [j]) (fun i H => Same H1 H ∧ H D = some (.lst (((ys.take i).map f).map V.bl))) ⟨same_upd hD, upd_same⟩ (fun i H _ p => p.1.seq hS) ?_ ?_
  · rintro i x H hx ⟨sm, hl⟩
    obtain ⟨y, ey, rfl⟩ : ∃ y, ys[i]? = some y ∧ x = V.str y := by
      rw [List.getElem?_map] at hx
      cases e : ys[i]? with
      | none => rw [e] at hx; cases hx
      | some z => rw [e] at hx; exact ⟨z, rfl, (Option.some.inj hx).symm⟩
    refine ⟨by simp [wipe1, List.set_set], ?_⟩
    refine he y (List.mem_of_getElem? ey) H _ sm fun H2 s2 => ?_
    refine ⟨_, s2 _ _ hl, ?_, fun b o e => ?_, ?_⟩
    · rw [List.length_map, List.length_map, List.length_take]; omega
    · rw [upd_ne (ne_of_none e hD)]; exact s2 _ _ (sm _ _ e)
    · rw [upd_same, take_step ey, List.map_append, List.map_append]; rfl
  · rintro H ⟨sm, hl⟩
    rw [List.length_map, List.take_length] at hl
    exact hd H sm hl
/-- over a list, any values that are reckoned from the items alone -/
theorem lcV_list {α : Type} {K : PySem.W.Frag} {a : Addr} {ys : List α} {te : TE} {j : Nat} {σ : L2.St} {H1 : Hp} {D : Addr} {Qd : Hp → Prop} (g f : α → V) (hD : H1 D = none) (hS : SqL K H1 a (ys.map g)) (hz : ys.length < sizeLine)
    (he : ∀ y, y ∈ ys → ∀ (H : Hp) (Q : VK), Same H1 H → (∀ H', Same H H' → Q (f y) H') → te ((σ.set j none).set j (some (g y))) H Q)
    (hd : ∀ H, Same H1 H → H D = some (.lst (ys.map f)) → Qd H) :
    ∃ W : Nat → Nat → Hp → Prop, (∃ m, W 0 m (upd H1 D (.lst []))) ∧ ∀ i m H, W i m H →
      ((Itl K a).stop i H ∧ Qd H) ∨ ((Itl K a).go i H ∧ ∃ Nx : Hp → Prop, (∀ H', Nx H' → ∃ m', m' < m ∧ W (i + 1) m' H') ∧ ∀ y H', (Itl K a).yld i H y H' → gName j y (wipe σ [j]) H' fun σ2 H2 => wipe σ2 [j] = wipe σ [j] ∧ tYes σ2 H2 fun b H3 =>
        if b = true then te σ2 H3 fun z H4 => ∃ acc, H4 D = some (.lst acc) ∧ acc.length < sizeLine ∧ Nx (upd H4 D (.lst (acc ++ [z]))) else Nx H3) := by
  refine lc_list (K := K) (a := a) (xs := ys.map g) (vs := [j]) (fun i H => Same H1 H ∧ H D = some (.lst ((ys.take i).map f))) ⟨same_upd hD, upd_same⟩ (fun i H _ p => p.1.seq hS) ?_ ?_
  · rintro i x H hx ⟨sm, hl⟩
    obtain ⟨y, ey, rfl⟩ : ∃ y, ys[i]? = some y ∧ x = g y := by
      rw [List.getElem?_map] at hx
      cases e : ys[i]? with
      | none => rw [e] at hx; cases hx
      | some z => rw [e] at hx; exact ⟨z, rfl, (Option.some.inj hx).symm⟩
    refine ⟨by simp [wipe1, List.set_set], ?_⟩
    refine he y (List.mem_of_getElem? ey) H _ sm fun H2 s2 => ?_
    refine ⟨_, s2 _ _ hl, ?_, fun b o e => ?_, ?_⟩
    · rw [List.length_map, List.length_take]; omega
    · rw [upd_ne (ne_of_none e hD)]; exact s2 _ _ (sm _ _ e)
    · rw [upd_same, take_step ey, List.map_append]; rfl
  · rintro H ⟨sm, hl⟩
    rw [List.length_map, List.take_length] at hl
    exact hd H sm hl
theorem all_id (l : List Bool) : l.all id = l.all (fun b => b) := rfl
theorem all_map {α : Type} (f : α → Bool) (l : List α) : (l.map f).all id = l.all f := by rw [List.all_map]; rfl
end My

namespace My
open PySem PySem.Spec PyProof.Rows L2
theorem str_eq {x y : Str} (h : x.cps.toList = y.cps.toList) : x = y := by
  cases x; cases y
  simp only at h
  rw [Array.toList_inj] at h
  rw [h]
theorem cut_hd (s : Str) : (cutS s none (some 1)).cps.toList = s.cps.toList.take 1 := by
  have e : s.cps.toList.length = s.length := Array.length_toList
  unfold cutS
  rw [HT.sIx_none, show HT.sIx s.length s.length (some 1) = min 1 s.length from HT.sIx_nat _ _ 1]
  show (s.cps.toList.drop 0).take (min 1 s.length - 0) = _
  rw [List.drop_zero, Nat.sub_zero, ← e]
  cases s.cps.toList with
  | nil => rfl
  | cons x r => rw [List.length_cons, show min 1 (r.length + 1) = 1 by omega]
theorem cut_tl (s : Str) : (cutS s (some 1) none).cps.toList = s.cps.toList.drop 1 := by
  have e : s.cps.toList.length = s.length := Array.length_toList
  unfold cutS
  rw [HT.sIx_none, show HT.sIx s.length 0 (some 1) = min 1 s.length from HT.sIx_nat _ _ 1]
  show (s.cps.toList.drop (min 1 s.length)).take (s.length - min 1 s.length) = _
  rw [← e]
  cases s.cps.toList with
  | nil => rfl
  | cons x r =>
    rw [List.length_cons, show min 1 (r.length + 1) = 1 by omega]
    show r.take (r.length + 1 - 1) = r
    rw [Nat.add_sub_cancel, List.take_length]
def fig (s : Str) : Str := if cutS s none (some 1) = "-" then cutS s (some 1) none else s
def digS (c : Nat) : Bool := decide (c ∈ ("0123456789" : Str).cps.toList)
def okFig (s : Str) : Bool := (decide (1 ≤ (fig s).length) && decide ((fig s).length ≤ 300)) && (fig s).cps.toList.all digS
def readInt (s : Str) : Option Int := if okFig s = true then (match intText? s with | some n => if (toString n : Str) = s then some n else none | none => none) else none
def optI : Option Int → V
  | none => .non
  | some n => .int n
theorem dig_iff (c : Nat) : digS c = true ↔ 48 ≤ c ∧ c ≤ 57 := by
  unfold digS
  rw [show ("0123456789" : Str).cps.toList = [48, 49, 50, 51, 52, 53, 54, 55, 56, 57] from rfl, decide_eq_true_iff]
  simp only [List.mem_cons, List.not_mem_nil, or_false]
  omega
theorem minus_cps : ("-" : Str).cps.toList = [45] := rfl
theorem fig_of (s : Str) : (∃ r, s.cps.toList = 45 :: r ∧ (fig s).cps.toList = r) ∨ (fig s = s ∧ ∀ r, s.cps.toList ≠ 45 :: r) := by
  unfold fig
  split
  · rename_i h
    have h2 := cut_hd s
    rw [h, minus_cps] at h2
    left
    cases e : s.cps.toList with
    | nil => rw [e] at h2; simp at h2
    | cons x r =>
      rw [e] at h2
      simp at h2
      subst h2
      exact ⟨r, rfl, by rw [cut_tl, e]; rfl⟩
  · rename_i h
    right
    refine ⟨rfl, fun r e => h (str_eq ?_)⟩
    rw [cut_hd, e, minus_cps]; rfl
theorem digits_lt : ∀ (cs : List Nat) (a : Nat), NumText.AllDigits cs → cs.foldl (fun acc c => acc * 10 + (c - 48)) a < (a + 1) * 10 ^ cs.length
  | [], a, _ => by simp
  | c :: cs, a, h => by
    have hc := h.head
    have ih := digits_lt cs (a * 10 + (c - 48)) h.tail
    rw [List.foldl_cons, List.length_cons]
    refine Nat.lt_of_lt_of_le ih ?_
    rw [Nat.pow_succ, Nat.mul_comm (10 ^ cs.length) 10, ← Nat.mul_assoc]
    exact Nat.mul_le_mul_right _ (by omega)
theorem ten_le {n : Nat} (h : n ≤ 300) : 10 ^ n < 2 ^ 1000 := Nat.lt_of_le_of_lt (Nat.pow_le_pow_right (by decide) h) (by decide +kernel)
theorem fig_val {s : Str} (h : okFig s = true) : ∃ n, intText? s = some n ∧ n.natAbs < 2 ^ 1000 ∧ s.length ≤ 301 := by
  unfold okFig at h
  rw [Bool.and_eq_true, Bool.and_eq_true] at h
  obtain ⟨⟨h1, h2⟩, h3⟩ := h
  have h1 := of_decide_eq_true h1
  have h2 := of_decide_eq_true h2
  have el : (fig s).cps.toList.length = (fig s).length := Array.length_toList
  have es : s.cps.toList.length = s.length := Array.length_toList
  have had : NumText.AllDigits (fig s).cps.toList := fun c hc => (dig_iff c).mp (List.all_eq_true.mp h3 c hc)
  have bound : NumText.digitsVal (fig s).cps.toList < 2 ^ 1000 := by
    have b := digits_lt (fig s).cps.toList 0 had
    unfold NumText.digitsVal
    refine Nat.lt_trans b ?_
    rw [Nat.zero_add, Nat.one_mul]
    exact ten_le (by omega)
  rcases fig_of s with ⟨r, e1, e2⟩ | ⟨e1, _⟩
  · rw [e2] at had bound el
    rw [e1] at es
    simp only [List.length_cons] at es
    have hr : r ≠ [] := by
      intro z; subst z
      simp at el; omega
    exact ⟨_, intText_neg e1 had hr (by omega), by rw [Int.natAbs_neg]; exact bound, by omega⟩
  · rw [e1] at had bound el h1 h2
    have hr : s.cps.toList ≠ [] := by
      intro z
      rw [z] at es; simp at es; omega
    exact ⟨_, intText_digits had hr (by omega), bound, by omega⟩
theorem readInt_of {s : Str} {n : Int} (h : okFig s = true) (e : intText? s = some n) : readInt s = if (toString n : Str) = s then some n else none := by
  unfold readInt
  rw [if_pos h, e]
theorem readInt_no {s : Str} (h : ¬ okFig s = true) : readInt s = none := by
  unfold readInt
  rw [if_neg h]
end My

namespace My
open PySem PySem.Spec PyProof.Rows L2
/-- read_integer(word) -/
def spRI : Sp := fun vs H Q _ => ∃ w : Str, vs = [.str w] ∧ w.length < 2 ^ 20 ∧ ∀ H', Same H H' → Q (optI (readInt w)) H'
theorem small20 {n : Nat} (h : n < 2 ^ 20) : n ≤ sizeLine := by rw [sizeLine_eq]; omega
theorem small20' {n : Nat} (h : n < 2 ^ 20) : n < sizeLine := by rw [sizeLine_eq]; omega
theorem fig_len (s : Str) : (fig s).length ≤ s.length := by
  have es : s.cps.toList.length = s.length := Array.length_toList
  have el : (fig s).cps.toList.length = (fig s).length := Array.length_toList
  rcases fig_of s with ⟨r, e1, e2⟩ | ⟨e1, _⟩
  · rw [e1] at es
    rw [e2] at el
    simp only [List.length_cons] at es
    omega
  · rw [e1]; exact Nat.le_refl _
section
variable {P : Program} {w : World} {K : PySem.W.Frag} {mg : Str → Option Value} {base : Heap} {A : Nat → Addr} {D : Nat → FuncData}
theorem ok_ri (T : Txt P K mg A D) : FnG P w K mg base CX0 1 (A 1) (D 1) ["word"] spRI := by
  refine def_ok0 T.F_read_integer sc_read_integer (fun vs H Q E h => ?_) (fun cdv Ar outer s H vs Q E hr hG h => ?_)
  · obtain ⟨a, rfl, _⟩ := h; rfl
  · obtain ⟨wd, rfl, hl, q⟩ := h
    refine ⟨_, (pss_cons (ps_set (i := 1) sc_read_integer.nd rfl (Or.inl rfl) (pe_cut (pe_ifExp (pt_cmpR op_eq (pe_slice sl_str (pv 0) po_none (po_some pe_int)) (pe_gl T.c_MINUS) (nomark _)) (pe_slice sl_str (pv 0) (po_some pe_int) po_none) (pv 0))))
      (pss_cons (ps_if (pt_cut (PW.pt (pw_or (pt_not (pt_chain op_le op_le pe_int (pe_callB call_len_str (by rfl) T.n_len PySem.boot_len (pa_cons (pv 1) pa_nil)) (pe_gl T.c_MOST_FIGURES))) (pw_or1 (pt_not (pt_val (pe_callB (cr_all rfl) (by rfl) T.n_all (by decide +kernel) (pa_cons (pe_lc (own := [("sign", 3)]) (g := gName 3) (tt := tYes) (by rfl) sc_read_integer.nd (pi_str (pv 1)) (blkOk_by (own := [("sign", 3)]) (N := ["word", "figures", "number", "sign"]) (sc := defScope s_read_integer) (by decide +kernel)) (fun _ _ _ _ _ => pg_name (i := 3) sc_read_integer.nd rfl (by first | exact Or.inl rfl | exact Or.inr rfl | exact Or.inr (Or.inl rfl))) (fun _ _ _ _ _ => pts_nil) (fun _ _ _ _ _ => (pe_cmpR op_in_sign (pv 3) (pe_gl T.c_FIGURES) rfl))) pa_nil)))))))) (pss_one (ps_ret pe_non)) pss_nil)
      (pss_cons (ps_set (i := 2) sc_read_integer.nd rfl (Or.inl rfl) (pe_callTy call_int_str (by rfl) T.n_int (by decide +kernel) (pa_cons (pv 0) pa_nil)))
      (pss_one (ps_ret (pe_ifExp (pt_cmpR op_eq (pe_callTy call_str_int (by rfl) T.n_str (by decide +kernel) (pa_cons (pv 2) pa_nil)) (pv 0) (nomark _)) (pv 2) pe_non)))))), ?_⟩
    refine ⟨fun v H1 => v = .str (fig wd) ∧ H1 = H, ?_, ?_⟩
    · refine ⟨.str wd, rfl, 1, rfl, wd, rfl, small20 hl, rfl, _, rfl, ite2 (fun e => ?_) (fun e => ?_)⟩
      · have e : cutS wd none (some 1) = "-" := V.str.inj (of_decide_eq_true e)
        refine ⟨.str wd, rfl, 1, rfl, wd, rfl, small20 hl, ?_, rfl⟩
        unfold fig; rw [if_pos e]
      · refine ⟨.str wd, rfl, ?_, rfl⟩
        unfold fig; rw [if_neg]
        intro z
        exact e (decide_eq_true (by rw [z]))
    · rintro v H1 ⟨rfl, rfl⟩
      have hf : (fig wd).length < 2 ^ 20 := Nat.lt_of_le_of_lt (fig_len wd) hl
      refine ⟨fun b H2 => b = !okFig wd ∧ Same H1 H2, ?_, ?_⟩
      · refine ⟨.str (fig wd), rfl, fig wd, rfl, small20 hf, 1, _, rfl, rfl, _, rfl, ite2 (fun e => ?_) (fun e => ?_)⟩
        · have e := of_decide_eq_true e
          refine ⟨_, 300, rfl, rfl, _, rfl, ite2 (fun e2 => ?_) (fun e2 => ?_)⟩
          · refine ⟨?_, Same.refl _⟩
            have e3 : ¬ (((fig wd).length : Int) ≤ 300) := by simpa using e2
            unfold okFig
            rw [decide_eq_false (show ¬ ((fig wd).length ≤ 300) by omega), Bool.and_false, Bool.false_and]; rfl
          · have e3 : ((fig wd).length : Int) ≤ 300 := by simpa using e2
            refine ⟨_, rfl, _, rfl, fun D hD => lcB_str (x := fig wd) (j := 3) digS hD (small20' hf) (fun c hc H Q sm k => ⟨_, rfl, c, _, rfl, rfl, k H (Same.refl _)⟩) (fun H2 sm hL => ?_)⟩
            refine ⟨_, _, rfl, SqL.of hL, _, rfl, ?_, sm⟩
            rw [all_map]
            unfold okFig
            rw [decide_eq_true (show 1 ≤ (fig wd).length by omega), decide_eq_true (show (fig wd).length ≤ 300 by omega), Bool.true_and, Bool.true_and]
        · refine ⟨_, rfl, ?_, Same.refl _⟩
          have e3 : ¬ ((1 : Int) ≤ ((fig wd).length : Int)) := by simpa using e
          unfold okFig
          rw [decide_eq_false (show ¬ (1 ≤ (fig wd).length) by omega), Bool.false_and, Bool.false_and]; rfl
      · rintro b H2 ⟨rfl, sm⟩
        refine ite2 (fun e => ?_) (fun e => ?_)
        · rw [readInt_no (by simpa using e)] at q
          exact q _ sm
        · have ok : okFig wd = true := by simpa using e
          obtain ⟨n, e1, e2, e3⟩ := fig_val ok
          rw [readInt_of ok e1] at q
          refine ⟨.str wd, rfl, wd, n, rfl, e1, by omega, ?_⟩
          refine ⟨_, rfl, n, rfl, Nat.lt_of_lt_of_le (PySem.Flt.log2_lt_of (by decide) e2) (by decide), .str wd, rfl, rfl, _, rfl, ite2 (fun e => ?_) (fun e => ?_)⟩
          · have e4 : (toString n : Str) = wd := V.str.inj (of_decide_eq_true e)
            rw [if_pos e4] at q
            exact ⟨_, rfl, q _ sm⟩
          · rw [if_neg (fun z => e (decide_eq_true (congrArg V.str z)))] at q
            exact q _ sm
end
end My

namespace My
open PySem PySem.Spec PyProof.Rows L2
def smallS : Str := "abcdefghijklmnopqrstuvwxyz"
def figsS : Str := "0123456789"
def signOk (c : Nat) : Bool := decide (c ∈ smallS.cps.toList) || (decide (c ∈ figsS.cps.toList) || decide ((⟨#[c]⟩ : Str) = "."))
def headOk (s : Str) : Bool := match s.cps.toList with
  | c :: _ => decide (c ∈ smallS.cps.toList)
  | [] => false
def signWord (s : Str) : Bool := decide (s = "") || (headOk s && s.cps.toList.all signOk)
def signV : V → Bool
  | .str s => signWord s
  | _ => false
theorem strV {v : V} (h : isStrV v = true) : ∃ s, v = .str s := by
  cases v <;> simp [isStrV] at h
  exact ⟨_, rfl⟩
theorem signV_no {v : V} (h : isStrV v = false) : signV v = false := by
  cases v <;> first | rfl | (simp [isStrV] at h)
def intsV : V → Option Int
  | .int i => some i
  | _ => none
/-- what may stand in a paper without brackets -/
def partV : V → Bool
  | .int i => decide (i.natAbs < 10 ^ 300)
  | .non => true
  | v => signV v
def spSW : Sp := fun vs H Q _ => ∃ v, vs = [v] ∧ Known H v ∧ (∀ s, v = .str s → s.length < 2 ^ 20) ∧ ∀ H', Same H H' → Q (.bl (signV v)) H'
def spPart : Sp := fun vs H Q _ => ∃ v, vs = [v] ∧ Known H v ∧ (∀ s, v = .str s → s.length < 2 ^ 20) ∧ ∀ H', Same H H' → Q (.bl (partV v)) H'
section
variable {P : Program} {w : World} {K : PySem.W.Frag} {mg : Str → Option Value} {base : Heap} {A : Nat → Addr} {D : Nat → FuncData}
theorem ok_sw (T : Txt P K mg A D) : FnG P w K mg base CX0 1 (A 2) (D 2) ["value"] spSW := by
  refine def_ok0 T.F_is_sign_word sc_is_sign_word (fun vs H Q E h => ?_) (fun cdv Ar outer s H vs Q E hr hG h => ?_)
  · obtain ⟨a, rfl, _⟩ := h; rfl
  · obtain ⟨v, rfl, kn, hl, q⟩ := h
    refine ⟨_, (pss_cons (ps_if (pt_not (pt_val (pe_callB call_isi (by rfl) T.n_isinstance (by decide +kernel) (pa_cons (pv 0) (pa_cons (pe_bltn (v := .ty "str") (by rfl) T.n_str (by decide +kernel) rfl) pa_nil))))) (pss_one (ps_ret pe_bl)) pss_nil)
      (pss_cons (ps_if (pt_cmpR op_eq (pv 0) pe_str (nomark _)) (pss_one (ps_ret pe_bl)) pss_nil)
      (pss_one (ps_ret (pe_and (pe_cmpR op_in_sign (pe_ix ix_str (pv 0) pe_int (fun _ _ => rfl)) (pe_gl T.c_SMALL) rfl) (pe_one (pe_callB (cr_all rfl) (by rfl) T.n_all (by decide +kernel) (pa_cons (pe_lc (own := [("sign", 1)]) (g := gName 1) (tt := tYes) (by rfl) sc_is_sign_word.nd (pi_str (pv 0)) (blkOk_by (own := [("sign", 1)]) (N := ["value", "sign"]) (sc := defScope s_is_sign_word) (by decide +kernel)) (fun _ _ _ _ _ => pg_name (i := 1) sc_is_sign_word.nd rfl (by first | exact Or.inl rfl | exact Or.inr rfl | exact Or.inr (Or.inl rfl))) (fun _ _ _ _ _ => pts_nil) (fun _ _ _ _ _ => (pe_or (pe_cmpR op_in_sign (pv 1) (pe_gl T.c_SMALL) rfl) (pe_or (pe_cmpR op_in_sign (pv 1) (pe_gl T.c_FIGURES) rfl) (pe_one (pe_cmpR op_eq (pv 1) (pe_gl T.c_DOT) (nomark _))))))) pa_nil)))))))), ?_⟩
    obtain ⟨t, ty, e1⟩ := kn.kStr (K := K)
    cases hv : isStrV v with
    | false =>
      rw [hv] at e1
      rw [signV_no hv] at q
      exact ⟨_, rfl, _, .ty "str", t, _, _, rfl, .ty _, ty, e1, _, rfl, q _ (Same.refl _)⟩
    | true =>
      obtain ⟨z, rfl⟩ := strV hv
      have hz := hl z rfl
      refine ⟨_, rfl, _, .ty "str", t, _, _, rfl, .ty _, ty, e1, _, rfl, ?_⟩
      refine ⟨_, rfl, rfl, _, rfl, ite2 (fun e => ?_) (fun e => ?_)⟩
      · have e2 : z = "" := V.str.inj (of_decide_eq_true e)
        have q2 := q H (Same.refl _)
        rw [show signV (.str z) = true by subst e2; rfl] at q2
        exact q2
      · have e2 : z ≠ "" := fun y => e (decide_eq_true (by rw [y]))
        have es : z.cps.toList.length = z.length := Array.length_toList
        cases hc : z.cps.toList with
        | nil => exact absurd (str_eq (by rw [hc]; rfl)) e2
        | cons c r =>
          have sw : signWord z = (decide (c ∈ smallS.cps.toList) && z.cps.toList.all signOk) := by
            unfold signWord headOk
            rw [decide_eq_false e2, hc]; rfl
          refine ⟨_, rfl, z, 0, c, rfl, rfl, small20 hz, by rw [hc]; exact atI_nat (j := 0) rfl, c, smallS, rfl, rfl, _, rfl, ?_⟩
          have q2 : ∀ H', Same H H' → Q (.bl (decide (c ∈ smallS.cps.toList) && z.cps.toList.all signOk)) H' := fun H' sm => by rw [← sw]; exact q H' sm
          refine ite2 (fun e3 => ?_) (fun e3 => ?_)
          · have e4 : decide (c ∈ smallS.cps.toList) = true := e3
            rw [e4] at q2
            have q3 : ∀ H', Same H H' → Q (.bl (z.cps.toList.all signOk)) H' := by simpa using q2
            refine ⟨_, rfl, _, rfl, fun D hD => lcB_str (x := z) (j := 1) signOk hD (small20' hz) (fun d hd H Q sm k => ?_) (fun H2 sm hL => ?_)⟩
            · have kk := k H (Same.refl _)
              unfold signOk at kk
              refine ⟨_, rfl, d, smallS, rfl, rfl, _, rfl, ite2 (fun e5 => ?_) (fun e5 => ?_)⟩
              · rw [e5, Bool.true_or] at kk
                exact kk
              · rw [Bool.eq_false_iff.mpr e5, Bool.false_or] at kk
                refine ⟨_, rfl, d, figsS, rfl, rfl, _, rfl, ite2 (fun e6 => ?_) (fun e6 => ?_)⟩
                · rw [e6, Bool.true_or] at kk
                  exact kk
                · rw [Bool.eq_false_iff.mpr e6, Bool.false_or] at kk
                  have ee : decide (V.str ⟨#[d]⟩ = V.str ".") = decide ((⟨#[d]⟩ : Str) = ".") := decide_eq_decide.mpr ⟨V.str.inj, congrArg _⟩
                  refine ⟨_, rfl, rfl, ?_⟩
                  rw [ee]; exact kk
            · refine ⟨_, _, rfl, SqL.of hL, ?_⟩
              rw [all_map]
              exact q3 _ sm
          · have e4 : decide (c ∈ smallS.cps.toList) = false := Bool.eq_false_iff.mpr e3
            rw [e4] at q2
            exact q2 _ (Same.refl _)
theorem ok_part (T : Txt P K mg A D) : FnG P w K mg base CX0 2 (A 3) (D 3) ["value"] spPart := by
  have G_is_integer := ok_int (P := P) (w := w) (base := base) T
  have G_is_sign_word := ok_sw (P := P) (w := w) (base := base) T
  refine def_ok0 T.F_is_part sc_is_part (fun vs H Q E h => ?_) (fun cdv Ar outer s H vs Q E hr hG h => ?_)
  · obtain ⟨a, rfl, _⟩ := h; rfl
  · obtain ⟨v, rfl, kn, hl, q⟩ := h
    refine ⟨_, (pss_cons (ps_if (pt_val (pe_cg G_is_integer (hr.mono (by first | decide | omega)) hG (by rfl) T.g_is_integer T.F_is_integer.kp T.b_is_integer pass0 (pa_cons (pv 0) pa_nil))) (pss_one (ps_ret (pe_cmpR op_lt (pe_callB call_abs (by rfl) T.n_abs (by decide +kernel) (pa_cons (pv 0) pa_nil)) (pe_gl T.c_BEYOND) (nomark _)))) pss_nil)
      (pss_one (ps_ret (pe_or (pe_cmpR op_isN (pv 0) pe_non (nomark _)) (pe_one (pe_cg G_is_sign_word (hr.mono (by first | decide | omega)) hG (by rfl) T.g_is_sign_word T.F_is_sign_word.kp T.b_is_sign_word pass0 (pa_cons (pv 0) pa_nil))))))), ?_⟩
    refine ⟨_, rfl, v, rfl, kn, _, rfl, ite2 (fun e => ?_) (fun e => ?_)⟩
    · cases v with
      | int i =>
        refine ⟨_, rfl, i, rfl, _, _, rfl, rfl, ?_⟩
        have ev : decide ((if i < 0 then -i else i) < (10 ^ 300 : Int)) = partV (.int i) := by
          unfold partV
          refine decide_eq_decide.mpr ?_
          have z : ((10 ^ 300 : Nat) : Int) = 10 ^ 300 := by norm_cast
          rw [← z]
          split <;> omega
        have q2 := q H (Same.refl _)
        rw [← ev] at q2
        exact q2
      | _ => exact absurd e (by simp [isIntV])
    · refine ⟨_, rfl, rfl, _, rfl, ite2 (fun e2 => ?_) (fun e2 => ?_)⟩
      · have ev : v = .non := of_decide_eq_true e2
        subst ev
        exact q H (Same.refl _)
      · have ev : partV v = signV v := by
          cases v with
          | int i => exact absurd rfl e
          | non => exact absurd (decide_eq_true rfl) e2
          | _ => rfl
        refine ⟨_, rfl, v, rfl, kn, hl, fun H' sm => ?_⟩
        rw [← ev]
        exact q H' sm
end
end My

namespace My
open PySem PySem.Spec PyProof.Rows L2
/-! ### data that the frames may look into -/
mutual
inductive TD (H : Hp) : V → PyData → Prop
  | non : TD H .non .none
  | bl (b : Bool) : TD H (.bl b) (.bool b)
  | int (i : Int) : TD H (.int i) (.int i)
  | str (s : Str) (h : s.length < 2 ^ 20) : TD H (.str s) (.str s)
  | lst {a : Addr} {xs : List V} {ds : List PyData} (e : H a = some (.lst xs)) (r : TDs H xs ds) : TD H (.ref a) (.list ds)
  | tup {a : Addr} {xs : List V} {ds : List PyData} (e : H a = some (.tup xs)) (r : TDs H xs ds) : TD H (.ref a) (.tuple ds)
inductive TDs (H : Hp) : List V → List PyData → Prop
  | nil : TDs H [] []
  | cons {v : V} {vs : List V} {d : PyData} {ds : List PyData} (h : TD H v d) (r : TDs H vs ds) : TDs H (v :: vs) (d :: ds)
end
mutual
theorem TD.dp {K : PySem.W.Frag} {H : Hp} : ∀ (d : PyData) (v : V), TD H v d → Dp K H v d
  | .none, _, h => by cases h; exact .non
  | .bool b, _, h => by cases h; exact .bl b
  | .int i, _, h => by cases h; exact .int i
  | .str s, _, h => by cases h; exact .str s
  | .list ds, _, h => by
    cases h with
    | lst e r => exact .lst (SqL.of e) (TDs.dp ds _ r)
  | .tuple ds, _, h => by
    cases h with
    | tup e r => exact .tup (SqT.of e) (TDs.dp ds _ r)
  | .dict kvs, _, h => by cases h
theorem TDs.dp {K : PySem.W.Frag} {H : Hp} : ∀ (ds : List PyData) (vs : List V), TDs H vs ds → DpAll K H vs ds
  | [], _, h => by cases h; exact .nil
  | d :: ds, _, h => by
    cases h with
    | cons h r => exact .cons (TD.dp d _ h) (TDs.dp ds _ r)
end
mutual
theorem TD.keep {H H' : Hp} (kl : ∀ a xs, H a = some (.lst xs) → H' a = some (.lst xs)) (kt : ∀ a xs, H a = some (.tup xs) → H' a = some (.tup xs)) : ∀ (d : PyData) (v : V), TD H v d → TD H' v d
  | .none, _, h => by cases h; exact .non
  | .bool b, _, h => by cases h; exact .bl b
  | .int i, _, h => by cases h; exact .int i
  | .str s, _, h => by cases h with | str _ z => exact .str s z
  | .list ds, _, h => by
    cases h with
    | lst e r => exact .lst (kl _ _ e) (TDs.keep kl kt ds _ r)
  | .tuple ds, _, h => by
    cases h with
    | tup e r => exact .tup (kt _ _ e) (TDs.keep kl kt ds _ r)
  | .dict kvs, _, h => by cases h
theorem TDs.keep {H H' : Hp} (kl : ∀ a xs, H a = some (.lst xs) → H' a = some (.lst xs)) (kt : ∀ a xs, H a = some (.tup xs) → H' a = some (.tup xs)) : ∀ (ds : List PyData) (vs : List V), TDs H vs ds → TDs H' vs ds
  | [], _, h => by cases h; exact .nil
  | d :: ds, _, h => by
    cases h with
    | cons h r => exact .cons (TD.keep kl kt d _ h) (TDs.keep kl kt ds _ r)
end
theorem TD.same {H H' : Hp} {v : V} {d : PyData} (h : TD H v d) (s : Same H H') : TD H' v d := h.keep (fun _ _ e => s _ _ e) (fun _ _ e => s _ _ e) d v
theorem TDs.same {H H' : Hp} {v : List V} {d : List PyData} (h : TDs H v d) (s : Same H H') : TDs H' v d := h.keep (fun _ _ e => s _ _ e) (fun _ _ e => s _ _ e) d v
theorem TD.known {H : Hp} {v : V} {d : PyData} (h : TD H v d) : Known H v := by
  cases h with
  | non => exact .non
  | bl b => exact .bl b
  | int i => exact .int i
  | str s _ => exact .str s
  | lst e _ => exact .lst e
  | tup e _ => exact .tup e
theorem TD.len {H : Hp} {v : V} {d : PyData} (h : TD H v d) : ∀ s, v = .str s → s.length < 2 ^ 20 := by
  rintro s rfl
  cases h with | str _ z => exact z
theorem TDs.pairs {H : Hp} : ∀ {vs : List V} {ds : List PyData}, TDs H vs ds → ∃ ys : List (V × PyData), vs = ys.map (·.1) ∧ ds = ys.map (·.2) ∧ ∀ y ∈ ys, TD H y.1 y.2
  | [], [], _ => ⟨[], rfl, rfl, fun _ h => by cases h⟩
  | v :: vs, d :: ds, .cons h r => by
    obtain ⟨ys, e1, e2, k⟩ := TDs.pairs r
    refine ⟨(v, d) :: ys, by rw [e1]; rfl, by rw [e2]; rfl, fun y hy => ?_⟩
    rcases List.mem_cons.mp hy with rfl | hy
    · exact h
    · exact k y hy
theorem TDs.of {H : Hp} : ∀ {ys : List (V × PyData)}, (∀ y ∈ ys, TD H y.1 y.2) → TDs H (ys.map (·.1)) (ys.map (·.2))
  | [], _ => .nil
  | y :: ys, h => .cons (h y List.mem_cons_self) (TDs.of fun z hz => h z (List.mem_cons_of_mem _ hz))
/-! ### what can be told -/
def partD : PyData → Bool
  | .none => true
  | .int i => decide (i.natAbs < 10 ^ 300)
  | .str s => signWord s
  | _ => false
def nest : Nat → PyData → Bool
  | k + 1, .tuple ds => ds.all fun d => partD d || nest k d
  | _, _ => false
def isTup : PyData → Bool
  | .tuple _ => true
  | _ => false
def kids : PyData → List PyData
  | .tuple ds => ds
  | _ => []
mutual
def sz : PyData → Nat
  | .tuple ds => 1 + szs ds
  | .list ds => 1 + szs ds
  | _ => 1
def szs : List PyData → Nat
  | [] => 0
  | d :: ds => sz d + szs ds
end
theorem sz_pos (d : PyData) : 1 ≤ sz d := by cases d <;> simp [sz]
theorem len_szs : ∀ ds : List PyData, ds.length ≤ szs ds
  | [] => Nat.le_refl _
  | d :: ds => by
    have h1 := sz_pos d
    have h2 := len_szs ds
    simp only [List.length_cons, szs]; omega
theorem szs_append (a b : List PyData) : szs (a ++ b) = szs a + szs b := by
  induction a with
  | nil => simp [szs]
  | cons d a ih => simp only [List.cons_append, szs, ih]; omega
theorem szs_filter (p : PyData → Bool) (l : List PyData) : szs (l.filter p) ≤ szs l := by
  induction l with
  | nil => exact Nat.le_refl _
  | cons d l ih =>
    rw [List.filter_cons]
    split
    · simp only [szs]; omega
    · simp only [szs]; omega
theorem szs_kids (d : PyData) : szs (kids d) ≤ sz d := by
  cases d <;> simp [kids, sz, szs]
theorem szs_flat (l : List PyData) : szs (l.map kids).flatten ≤ szs l := by
  induction l with
  | nil => exact Nat.le_refl _
  | cons d l ih =>
    have h := szs_kids d
    simp only [List.map_cons, List.flatten_cons, szs_append, szs]; omega
theorem nest_level (k : Nat) : ∀ ds : List PyData, ds.all (nest (k + 1)) = (ds.all isTup && (((ds.map kids).flatten).filter fun d => !partD d).all (nest k))
  | [] => rfl
  | d :: ds => by
    have ih := nest_level k ds
    simp only [List.all_cons, ih, List.map_cons, List.flatten_cons, List.filter_append, List.all_append]
    cases d with
    | tuple es =>
      have e : (es.filter fun d => !partD d).all (nest k) = nest (k + 1) (.tuple es) := by
        rw [List.all_filter]
        show _ = es.all fun d => partD d || nest k d
        congr 1
        funext d
        cases partD d <;> rfl
      show (nest (k + 1) (.tuple es) && _) = _
      rw [show kids (.tuple es) = es from rfl, e, show isTup (.tuple es) = true from rfl]
      cases nest (k + 1) (.tuple es) <;> cases ds.all isTup <;> rfl
    | _ => rfl
theorem nest0 {ds : List PyData} (h : ds ≠ []) : ds.all (nest 0) = false := by
  cases ds with
  | nil => exact absurd rfl h
  | cons d ds => rfl
theorem TD.part {H : Hp} {v : V} {d : PyData} (h : TD H v d) : partV v = partD d := by
  cases h <;> rfl
theorem TD.isTup {H : Hp} {K : PySem.W.Frag} {v : V} {d : PyData} (h : TD H v d) : ∃ t, TyX K H v t ∧ PySem.W.kitOne K t (.type "tuple") = some (isTup d) := by
  cases h with
  | non => exact ⟨_, .base .non, by rfl⟩
  | bl b => exact ⟨_, .base (.bl b), by rfl⟩
  | int i => exact ⟨_, .base (.int i), by rfl⟩
  | str s _ => exact ⟨_, .base (.str s), by rfl⟩
  | lst e _ => exact ⟨_, .base (.lst e), by rfl⟩
  | tup e _ => exact ⟨_, .base (.tup e), by rfl⟩
/-- an item of a list that is looked through: data, or no tuple at all -/
def ItD (H : Hp) (v : V) (d : PyData) : Prop := TD H v d ∨ (NoTup H v ∧ d = .bool true)
theorem NoTup.same {H H' : Hp} {x : V} (k : NoTup H x) (s : Same H H') : NoTup H' x := by
  cases k with
  | non => exact .non
  | bl b => exact .bl b
  | int i => exact .int i
  | str z => exact .str z
  | lst e => exact .lst (s _ _ e)
  | dct e => exact .dct (s _ _ e)
theorem ItD.same {H H' : Hp} {v : V} {d : PyData} (h : ItD H v d) (s : Same H H') : ItD H' v d := by
  rcases h with h | ⟨h, e⟩
  · exact .inl (h.same s)
  · exact .inr ⟨h.same s, e⟩
theorem ItD.isTup {H : Hp} {K : PySem.W.Frag} {v : V} {d : PyData} (h : ItD H v d) : ∃ t, TyX K H v t ∧ PySem.W.kitOne K t (.type "tuple") = some (isTup d) := by
  rcases h with h | ⟨h, rfl⟩
  · exact h.isTup
  · exact h.kTup
/-- the items of tuples, tuple by tuple -/
theorem kids_of {H : Hp} : ∀ {ys : List (V × PyData)}, (∀ y ∈ ys, ItD H y.1 y.2) → ys.all (fun y => isTup y.2) = true →
    ∃ ps : List (Addr × List V), ys.map (·.1) = ps.map (fun p => V.ref p.1) ∧ (∀ p ∈ ps, H p.1 = some (.tup p.2)) ∧ ∃ zs : List (V × PyData), (ps.map (·.2)).flatten = zs.map (·.1) ∧ ((ys.map (·.2)).map kids).flatten = zs.map (·.2) ∧ ∀ z ∈ zs, TD H z.1 z.2
  | [], _, _ => ⟨[], rfl, (fun _ h => absurd h (by simp)), [], rfl, rfl, fun _ h => absurd h (by simp)⟩
  | y :: ys, h, ha => by
    rw [List.all_cons, Bool.and_eq_true] at ha
    obtain ⟨ps, e1, e2, zs, e3, e4, e5⟩ := kids_of (fun z hz => h z (List.mem_cons_of_mem _ hz)) ha.2
    obtain ⟨v, d⟩ := y
    have hy := h (v, d) List.mem_cons_self
    rcases hy with hy | ⟨_, hy⟩
    · cases hy with
      | @tup a xs ds e r =>
        obtain ⟨ws, w1, w2, w3⟩ := r.pairs
        refine ⟨(a, xs) :: ps, by simp [e1], fun p hp => ?_, ws ++ zs, by simp [e3, w1], (by rw [List.map_cons, List.map_cons, List.flatten_cons, e4, List.map_append, ← w2]; rfl), fun z hz => ?_⟩
        · rcases List.mem_cons.mp hp with rfl | hp
          · exact e
          · exact e2 p hp
        · rcases List.mem_append.mp hz with hz | hz
          · exact w3 z hz
          · exact e5 z hz
      | _ => exact absurd ha.1 (by simp [isTup])
    · dsimp only at hy
      subst hy
      exact absurd ha.1 (by simp [isTup])
/-- [list(one) for one in xs], the items tuples -/
theorem lcL_list {K : PySem.W.Frag} {a : Addr} {ps : List (Addr × List V)} {te : TE} {j : Nat} {σ : L2.St} {H1 : Hp} {D : Addr} {Qd : Hp → Prop} (hD : H1 D = none) (hS : SqL K H1 a (ps.map fun p => V.ref p.1)) (hz : ps.length < sizeLine) (ht : ∀ p ∈ ps, H1 p.1 = some (.tup p.2))
    (he : ∀ p, p ∈ ps → ∀ (H : Hp) (Q : VK), H p.1 = some (.tup p.2) → (∀ l, H l = none → Q (.ref l) (upd H l (.lst p.2))) → te ((σ.set j none).set j (some (.ref p.1))) H Q)
    (hd : ∀ (H : Hp) (qs : List (Addr × List V)), Same H1 H → qs.map (·.2) = ps.map (·.2) → H D = some (.lst (qs.map fun q => V.ref q.1)) → (∀ q ∈ qs, H q.1 = some (.lst q.2)) → Qd H) :
    ∃ W : Nat → Nat → Hp → Prop, (∃ m, W 0 m (upd H1 D (.lst []))) ∧ ∀ i m H, W i m H →
      ((Itl K a).stop i H ∧ Qd H) ∨ ((Itl K a).go i H ∧ ∃ Nx : Hp → Prop, (∀ H', Nx H' → ∃ m', m' < m ∧ W (i + 1) m' H') ∧ ∀ y H', (Itl K a).yld i H y H' → gName j y (wipe σ [j]) H' fun σ2 H2 => wipe σ2 [j] = wipe σ [j] ∧ tYes σ2 H2 fun b H3 =>
        if b = true then te σ2 H3 fun z H4 => ∃ acc, H4 D = some (.lst acc) ∧ acc.length < sizeLine ∧ Nx (upd H4 D (.lst (acc ++ [z]))) else Nx H3) := by
  refine lc_list (K := K) (a := a) (xs := ps.map fun p => V.ref p.1) (vs := [j]) (fun i H => Same H1 H ∧ ∃ qs : List (Addr × List V), qs.map (·.2) = (ps.take i).map (·.2) ∧ H D = some (.lst (qs.map fun q => V.ref q.1)) ∧ ∀ q ∈ qs, q.1 ≠ D ∧ H q.1 = some (.lst q.2))
    ⟨same_upd hD, [], rfl, upd_same, fun _ h => by cases h⟩ (fun i H _ p => p.1.seq hS) ?_ ?_
  · rintro i x H hx ⟨sm, qs, e1, e2, e3⟩
    obtain ⟨p, ep, rfl⟩ : ∃ p, ps[i]? = some p ∧ x = V.ref p.1 := by
      rw [List.getElem?_map] at hx
      cases e : ps[i]? with
      | none => rw [e] at hx; cases hx
      | some z => rw [e] at hx; exact ⟨z, rfl, (Option.some.inj hx).symm⟩
    refine ⟨by simp [wipe1, List.set_set], ?_⟩
    refine he p (List.mem_of_getElem? ep) H _ (sm _ _ (ht p (List.mem_of_getElem? ep))) fun l hl => ?_
    have nD : l ≠ D := fun z => by rw [z, e2] at hl; cases hl
    have hDl : upd H l (.lst p.2) D = some (.lst (qs.map fun q => V.ref q.1)) := by rw [upd_ne (Ne.symm nD)]; exact e2
    have len : qs.length = (ps.take i).length := by have := congrArg List.length e1; simpa using this
    refine ⟨_, hDl, ?_, fun b o e => ?_, qs ++ [(l, p.2)], ?_, ?_, fun q hq => ?_⟩
    · rw [List.length_map, len, List.length_take]; omega
    · rw [upd_ne (ne_of_none e hD), upd_ne (ne_of_none (sm _ _ e) hl)]; exact sm _ _ e
    · rw [take_step ep, List.map_append, List.map_append, e1]; rfl
    · rw [upd_same, List.map_append]; rfl
    · rcases List.mem_append.mp hq with hq | hq
      · obtain ⟨n1, n2⟩ := e3 q hq
        exact ⟨n1, by rw [upd_ne n1, upd_ne (ne_of_none n2 hl)]; exact n2⟩
      · rw [List.mem_singleton.mp hq]
        exact ⟨nD, by rw [upd_ne nD, upd_same]⟩
  · rintro H ⟨sm, qs, e1, e2, e3⟩
    rw [List.length_map, List.take_length] at e1
    exact hd H qs sm e1 e2 fun q hq => (e3 q hq).2
/-- [one for one in xs if test] -/
theorem lcF_list {α : Type} {K : PySem.W.Frag} {a : Addr} {ys : List α} {tt : TT} {j : Nat} {σ : L2.St} {H1 : Hp} {D : Addr} {Qd : Hp → Prop} (g : α → V) (f : α → Bool) (hD : H1 D = none) (hS : SqL K H1 a (ys.map g)) (hz : ys.length < sizeLine) (hj : j < σ.length)
    (he : ∀ y, y ∈ ys → ∀ (H : Hp) (Q : Bool → Hp → Prop), Same H1 H → (∀ H', Same H H' → Q (f y) H') → tt ((σ.set j none).set j (some (g y))) H Q)
    (hd : ∀ H, Same H1 H → H D = some (.lst ((ys.filter f).map g)) → Qd H) :
    ∃ W : Nat → Nat → Hp → Prop, (∃ m, W 0 m (upd H1 D (.lst []))) ∧ ∀ i m H, W i m H →
      ((Itl K a).stop i H ∧ Qd H) ∨ ((Itl K a).go i H ∧ ∃ Nx : Hp → Prop, (∀ H', Nx H' → ∃ m', m' < m ∧ W (i + 1) m' H') ∧ ∀ y H', (Itl K a).yld i H y H' → gName j y (wipe σ [j]) H' fun σ2 H2 => wipe σ2 [j] = wipe σ [j] ∧ tt σ2 H2 fun b H3 =>
        if b = true then tVar j σ2 H3 fun z H4 => ∃ acc, H4 D = some (.lst acc) ∧ acc.length < sizeLine ∧ Nx (upd H4 D (.lst (acc ++ [z]))) else Nx H3) := by
  refine lc_list (K := K) (a := a) (xs := ys.map g) (vs := [j]) (fun i H => Same H1 H ∧ H D = some (.lst (((ys.take i).filter f).map g))) ⟨same_upd hD, upd_same⟩ (fun i H _ p => p.1.seq hS) ?_ ?_
  · rintro i x H hx ⟨sm, hl⟩
    obtain ⟨y, ey, rfl⟩ : ∃ y, ys[i]? = some y ∧ x = g y := by
      rw [List.getElem?_map] at hx
      cases e : ys[i]? with
      | none => rw [e] at hx; cases hx
      | some z => rw [e] at hx; exact ⟨z, rfl, (Option.some.inj hx).symm⟩
    refine ⟨by simp [wipe1, List.set_set], ?_⟩
    refine he y (List.mem_of_getElem? ey) H _ sm fun H2 s2 => ?_
    have st : ys.take (i + 1) = ys.take i ++ [y] := take_step ey
    cases hf : f y with
    | true =>
      refine ⟨g y, ?_, _, s2 _ _ hl, ?_, fun b o e => ?_, ?_⟩
      · rw [wipe1]; exact List.getElem?_set_self (by rw [List.length_set]; exact hj)
      · rw [List.length_map]
        have := List.length_filter_le f (ys.take i)
        have := List.length_take_le i ys
        have : (ys.take i).length ≤ ys.length := by rw [List.length_take]; omega
        omega
      · rw [upd_ne (ne_of_none e hD)]; exact s2 _ _ (sm _ _ e)
      · rw [upd_same, st, List.filter_append, List.map_append, List.filter_cons, if_pos hf]; rfl
    | false =>
      refine ⟨sm.trans s2, ?_⟩
      rw [st, List.filter_append, List.filter_cons, if_neg (by rw [hf]; exact Bool.false_ne_true), List.filter_nil, List.append_nil]
      exact s2 _ _ hl
  · rintro H ⟨sm, hl⟩
    rw [List.length_map, List.take_length] at hl
    exact hd H sm hl
theorem nest_not {ds : List PyData} {k : Nat} (ne : ds ≠ []) (h : ds.all isTup = false) : ds.all (nest k) = false := by
  cases k with
  | zero => exact nest0 ne
  | succ k => rw [nest_level, h, Bool.false_and]
/-- can_be_told(value) -/
def spTold : Sp := fun vs H Q _ => ∃ v d, vs = [v] ∧ ItD H v d ∧ sz d < 2 ^ 20 ∧ ∀ H', Same H H' → Q (.bl (nest 12 d)) H'
section
variable {P : Program} {w : World} {K : PySem.W.Frag} {mg : Str → Option Value} {base : Heap} {A : Nat → Addr} {D : Nat → FuncData}
theorem ok_told (T : Txt P K mg A D) : FnG P w K mg base CX0 3 (A 4) (D 4) ["value"] spTold := by
  have G_is_part := ok_part (P := P) (w := w) (base := base) T
  refine def_ok0 T.F_can_be_told sc_can_be_told (fun vs H Q E h => ?_) (fun cdv Ar outer s H vs Q E hr hG h => ?_)
  · obtain ⟨a, d, rfl, _⟩ := h; rfl
  · obtain ⟨v, d, rfl, hv, hs, q⟩ := h
    refine ⟨_, (pss_cons (ps_par (i := 1) (j := 2) (by rfl) sc_can_be_told.nd rfl rfl (by decide) rfl rfl (pa_cons (pe_lst (pa_cons (pv 0) pa_nil)) (pa_cons pe_int pa_nil)) (by rfl))
      (pss_cons (ps_while (by first | exact PassesOwn.never | exact PassesOwn.leaving | exact L2.passes_of rfl) (pt_cmpR (op_neNil hr.units) (pv 1) (pe_lst pa_nil) (nomark _)) (pss_cons (ps_if (PW.pt (pw_or (pt_not (pt_val (pe_callB (cr_all rfl) (by rfl) T.n_all (by decide +kernel) (pa_cons (pe_lc (own := [("one", 4)]) (g := gName 4) (tt := tYes) (by rfl) sc_can_be_told.nd (pi_list (pv 1)) (blkOk_by (own := [("one", 4)]) (N := ["value", "last", "deep", "inner", "one"]) (sc := defScope s_can_be_told) (by decide +kernel)) (fun _ _ _ _ _ => pg_name (i := 4) sc_can_be_told.nd rfl (by first | exact Or.inl rfl | exact Or.inr rfl | exact Or.inr (Or.inl rfl))) (fun _ _ _ _ _ => pts_nil) (fun _ _ _ _ _ => (pe_callB (id := "isinstance") (call_isiX (K := K)) (by rfl) T.n_isinstance (by decide +kernel) (pa_cons (pv 4) (pa_cons (pe_bltn (v := .ty "tuple") (by rfl) T.n_tuple (by decide +kernel) rfl) pa_nil))))) pa_nil)))) (pw_or1 (pt_cmpR op_eq (pv 2) (pe_gl T.c_MOST_DEEP) (nomark _))))) (pss_one (ps_ret pe_bl)) pss_nil)
      (pss_cons (ps_set (i := 3) sc_can_be_told.nd rfl (Or.inl rfl) (pe_callB (cr_sumL rfl) (by rfl) T.n_sum (by decide +kernel) (pa_cons (pe_lc (own := [("one", 4)]) (g := gName 4) (tt := tYes) (by rfl) sc_can_be_told.nd (pi_list (pv 1)) (blkOk_by (own := [("one", 4)]) (N := ["value", "last", "deep", "inner", "one"]) (sc := defScope s_can_be_told) (by decide +kernel)) (fun _ _ _ _ _ => pg_name (i := 4) sc_can_be_told.nd rfl (by first | exact Or.inl rfl | exact Or.inr rfl | exact Or.inr (Or.inl rfl))) (fun _ _ _ _ _ => pts_nil) (fun _ _ _ _ _ => (pe_callTy (T := "list") (call_list_ofX (K := K)) (by rfl) T.n_list (by decide +kernel) (pa_cons (pv 4) pa_nil)))) (pa_cons (pe_lst pa_nil) pa_nil))))
      (pss_one (ps_par (i := 1) (j := 2) (by rfl) sc_can_be_told.nd rfl rfl (by decide) rfl rfl (pa_cons (pe_lc (own := [("one", 4)]) (g := gName 4) (by rfl) sc_can_be_told.nd (pi_list (pv 3)) (blkOk_by (own := [("one", 4)]) (N := ["value", "last", "deep", "inner", "one"]) (sc := defScope s_can_be_told) (by decide +kernel)) (fun _ _ _ _ _ => pg_name (i := 4) sc_can_be_told.nd rfl (by first | exact Or.inl rfl | exact Or.inr rfl | exact Or.inr (Or.inl rfl))) (fun _ _ _ _ _ => (pts_one (pt_not (pt_val (pe_cg G_is_part (hr.mono (by first | decide | omega)) hG (by rfl) T.g_is_part T.F_is_part.kp T.b_is_part pass0 (pa_cons (pv 4) pa_nil)))))) (fun _ _ _ _ _ => (pv 4))) (pa_cons (pe_op op_add (pv 2) pe_int) pa_nil)) (by rfl))))))
      (pss_one (ps_ret pe_bl)))), ?_⟩
    refine ⟨v, rfl, (by show 1 ≤ sizeLine; decide), fun L0 hL0 => ⟨_, _, rfl, ?_⟩⟩
    refine while_by (fun σ H' => ∃ (L : Addr) (ys : List (V × PyData)) (j : Nat) (i1 i2 : Option V), σ = [some v, some (.ref L), some (.int j), i1, i2] ∧ j ≤ 12 ∧ Same H H' ∧ H' L = some (.lst (ys.map (·.1))) ∧ (∀ y ∈ ys, ItD H' y.1 y.2) ∧ szs (ys.map (·.2)) < 2 ^ 20 ∧ (ys.map (·.2)).all (nest (12 - j)) = nest 12 d)
      (fun σ _ => match σ with | [_, _, some (.int j), _, _] => (13 - j).toNat | _ => 0) ⟨L0, [(v, d)], 0, none, none, rfl, by omega, same_upd hL0, upd_same, fun y hy => ?_, by simpa [szs] using hs, by simp⟩ ?_ ?_
    · rw [List.mem_singleton.mp hy]
      exact hv.same (same_upd hL0)
    · rintro σ H1 ⟨L, ys, j, i1, i2, rfl, hj, sm1, hL, hys, hsz, hans⟩
      refine ⟨_, rfl, (by show 0 ≤ sizeLine; decide), fun e1 he1 => ?_⟩
      have s2 := same_upd (o := .lst []) he1
      have hE : (upd H1 e1 (.lst [])) e1 = some (.lst []) := upd_same
      generalize upd H1 e1 (.lst []) = H2 at s2 hE ⊢
      refine ⟨L, e1, _, rfl, rfl, SqL.of (s2 _ _ hL), SqL.of hE, _, rfl, ite2 (fun e => ?_) (fun e => ?_)⟩
      · have ne : ys ≠ [] := fun z => by rw [z] at e; cases e
        have hlen : ys.length < 2 ^ 20 := by
          have := len_szs (ys.map (·.2))
          rw [List.length_map] at this; omega
        have hL2 := s2 _ _ hL
        have hys2 : ∀ y ∈ ys, ItD H2 y.1 y.2 := fun y hy => (hys y hy).same s2
        refine ⟨_, rfl, L, rfl, ⟨_, SqL.of hL2⟩, fun D1 hD1 => lcV_list (K := K) (a := L) (ys := ys) (j := 4) (fun y => y.1) (fun y => V.bl (isTup y.2)) hD1 (SqL.of hL2) (small20' hlen) (fun y hy H3 Q3 sm3 k3 => ?_) (fun H3 sm3 hD3 => ?_)⟩
        · obtain ⟨t, ty, ek⟩ := ((hys2 y hy).same sm3).isTup (K := K)
          exact ⟨_, rfl, _, .ty "tuple", t, _, _, rfl, .ty _, ty, ek, k3 H3 (Same.refl _)⟩
        · have hD4 : H3 D1 = some (.lst ((ys.map fun y => isTup y.2).map V.bl)) := by rw [hD3, List.map_map]; rfl
          refine ⟨_, _, rfl, SqL.of hD4, _, rfl, ?_⟩
          have ea : ((ys.map fun y => isTup y.2).all id) = (ys.map (·.2)).all isTup := by rw [all_map, List.all_map]; rfl
          have ne2 : ys.map (·.2) ≠ [] := fun z => ne (List.map_eq_nil_iff.mp z)
          refine ite2 (fun e2 => ?_) (fun e2 => ?_)
          · have e3 : (ys.map (·.2)).all isTup = false := by rw [ea] at e2; simpa using e2
            have q2 := q H3 ((sm1.trans s2).trans sm3)
            rw [← hans, nest_not ne2 e3] at q2
            exact q2
          · have e3 : (ys.map (·.2)).all isTup = true := by rw [ea] at e2; simpa using e2
            refine ⟨_, rfl, rfl, _, rfl, ite2 (fun e4 => ?_) (fun e4 => ?_)⟩
            · have ej : j = 12 := by have := V.int.inj (of_decide_eq_true e4); omega
              have q2 := q H3 ((sm1.trans s2).trans sm3)
              rw [← hans, ej, nest0 ne2] at q2
              exact q2
            · have ej : j ≠ 12 := fun z => e4 (decide_eq_true (by rw [z]; rfl))
              have hL3 := sm3 _ _ hL2
              have e5 : ys.all (fun y => isTup y.2) = true := by rw [← e3, List.all_map]; rfl
              obtain ⟨ps, f1, f2, zs, f3, f4, f5⟩ := kids_of (fun y hy => (hys2 y hy).same sm3) e5
              have pl : ps.length = ys.length := by have := congrArg List.length f1; simpa using this.symm
              rw [f1] at hL3
              have zsz : szs (zs.map (·.2)) < 2 ^ 20 := by rw [← f4]; exact Nat.lt_of_le_of_lt (szs_flat _) hsz
              have zl : zs.length < 2 ^ 20 := by
                have := len_szs (zs.map (·.2))
                rw [List.length_map] at this; omega
              refine ⟨_, rfl, L, rfl, ⟨_, SqL.of hL3⟩, fun D2 hD2 => lcL_list (K := K) (a := L) (ps := ps) (j := 4) hD2 (SqL.of hL3) (by rw [pl]; exact small20' hlen) f2 (fun p hp H4 Q4 ht k4 => ?_) (fun H4 qs sm4 g1 g2 g3 => ?_)⟩
              · exact ⟨_, rfl, p.1, p.2, rfl, .inr (SqT.of ht), k4⟩
              · refine ⟨(by show 0 ≤ sizeLine; decide), fun e6 he6 => ?_⟩
                have s6 := same_upd (o := .lst []) he6
                have hE6 : (upd H4 e6 (.lst [])) e6 = some (.lst []) := upd_same
                generalize upd H4 e6 (.lst []) = H5 at s6 hE6 ⊢
                have fl : (qs.map (·.2)).flatten = zs.map (·.1) := by rw [g1, f3]
                have nq : qs ≠ [] := fun z => by
                  have y := congrArg List.length g1
                  rw [z] at y
                  have : 0 < ys.length := List.length_pos_iff.mpr ne
                  simp at y; omega
                refine ⟨D2, e6, qs, rfl, SqL.of (s6 _ _ g2), hE6, nq, fun r hr => s6 _ _ (g3 r hr), (by rw [fl, List.length_map]; exact small20 zl), fun p hp => ?_⟩
                rw [fl]
                have s7 := same_upd (o := .lst (zs.map (·.1))) hp
                have hP : (upd H5 p (.lst (zs.map (·.1)))) p = some (.lst (zs.map (·.1))) := upd_same
                generalize upd H5 p (.lst (zs.map (·.1))) = H6 at s7 hP ⊢
                have s37 : Same H3 H6 := (sm4.trans s6).trans s7
                refine ⟨_, rfl, p, rfl, ⟨_, SqL.of hP⟩, fun D3 hD3 => lcF_list (K := K) (a := p) (ys := zs) (j := 4) (fun z => z.1) (fun z => !partD z.2) hD3 (SqL.of hP) (small20' zl) (by simp) (fun z hz H7 Q7 sm7 k7 => ?_) (fun H7 sm7 hD7 => ?_)⟩
                · have tz := (f5 z hz).same (s37.trans sm7)
                  refine ⟨_, rfl, z.1, rfl, tz.known, tz.len, fun H' sm' => ⟨_, rfl, ?_⟩⟩
                  rw [tz.part]
                  exact k7 H' sm'
                · have hsum : ((zs.filter fun z => !partD z.2).map (·.2)) = (zs.map (·.2)).filter fun d => !partD d := by rw [List.filter_map]; rfl
                  refine ⟨_, rfl, _, _, rfl, rfl, _, _, rfl, ⟨D3, zs.filter fun z => !partD z.2, j + 1, _, i2, rfl, by omega, ((sm1.trans s2).trans sm3).trans (s37.trans sm7), hD7, fun z hz => .inl ((f5 z (List.mem_filter.mp hz).1).same (s37.trans sm7)), ?_, ?_⟩, ?_⟩
                  · rw [hsum]; exact Nat.lt_of_le_of_lt (szs_filter _ _) zsz
                  · rw [hsum, ← hans, show 12 - j = (12 - (j + 1)) + 1 by omega, nest_level, e3, Bool.true_and, f4]
                  · show (13 - ((j : Int) + 1)).toNat < (13 - (j : Int)).toNat
                    omega
      · have ey : ys = [] := by
          cases ys with
          | nil => rfl
          | cons y r => exact absurd rfl e
        subst ey
        have q2 := q H2 (sm1.trans s2)
        rw [← hans] at q2
        exact q2
    · rintro σ H' Q1 Q2 hh ⟨v1, e, hz, k⟩
      refine ⟨v1, e, hz, fun p hp => ?_⟩
      obtain ⟨a1, b1, xs, h1, h2, h3, h4, k2⟩ := k p hp
      obtain ⟨kk, ek, q3⟩ := k2
      exact ⟨a1, b1, xs, h1, h2, h3, h4, kk, ek, hh _ _ q3⟩
end
end My

namespace My
open PySem PySem.Spec PyProof.Rows L2
/-! ### papers as text -/
def partTxt : PyData → Str
  | .none => "!"
  | .str s => if s = "" then "-" else s
  | .int i => toString i
  | _ => ""
def brk (l : List Str) : Str := "(" ++ Txt.join " " l ++ ")"
mutual
def textOf : PyData → Str
  | .tuple ds => brk (textsOf ds)
  | d => partTxt d
def textsOf : List PyData → List Str
  | [] => []
  | d :: ds => textOf d :: textsOf ds
end
theorem textsOf_map : ∀ ds : List PyData, textsOf ds = ds.map textOf
  | [] => rfl
  | d :: ds => by rw [textsOf, textsOf_map ds]; rfl
theorem len_app (a b : Str) : (a ++ b).length = a.length + b.length := by
  show (a ++ b).cps.size = _
  rw [PySem.Str.cps_append, Array.size_append]; rfl
theorem join_len : ∀ l : List Str, l ≠ [] → (Txt.join " " l).length + 1 = (l.map (·.length)).sum + l.length
  | [], h => absurd rfl h
  | [x], _ => by rw [TL.join_eq]; simp [Str.join]
  | x :: y :: r, _ => by
    have ih := join_len (y :: r) (by simp)
    rw [TL.join_eq] at ih ⊢
    show (x ++ " " ++ Str.join " " (y :: r)).length + 1 = _
    rw [len_app, len_app, List.map_cons, List.sum_cons, List.length_cons]
    have e : (" " : Str).length = 1 := rfl
    omega
theorem brk_len (l : List Str) : (brk l).length = (Txt.join " " l).length + 2 := by
  unfold brk
  rw [len_app, len_app]
  have e : ("(" : Str).length = 1 := rfl
  have e2 : (")" : Str).length = 1 := rfl
  omega
theorem join_fits {l : List Str} (h : (brk l).length < 2 ^ 20) : (l.map (·.length)).sum + l.length * (" " : Str).length ≤ 16777216 ∧ l.length < 2 ^ 20 := by
  have e : (" " : Str).length = 1 := rfl
  rw [e, Nat.mul_one]
  by_cases ne : l = []
  · subst ne; simp
  · have := join_len l ne
    rw [brk_len] at h
    omega
theorem mem_le_sum : ∀ {l : List Nat} {n : Nat}, n ∈ l → n ≤ l.sum
  | m :: l, n, h => by
    rw [List.sum_cons]
    rcases List.mem_cons.mp h with rfl | h
    · omega
    · have := mem_le_sum h; omega
theorem len_le_brk {l : List Str} {x : Str} (h : x ∈ l) : x.length ≤ (brk l).length := by
  have h1 := join_len l (List.ne_nil_of_mem h)
  have h2 : x.length ≤ (l.map (·.length)).sum := mem_le_sum (List.mem_map.mpr ⟨x, h, rfl⟩)
  have h3 : 0 < l.length := List.length_pos_of_mem h
  rw [brk_len]
  have h4 : x.length + 1 ≤ (l.map (·.length)).sum + l.length := by omega
  omega
theorem textOf_part {d : PyData} (h : isTup d = false) : textOf d = partTxt d := by
  cases d <;> first | rfl | (simp [isTup] at h)
theorem partD_tup {d : PyData} (h : isTup d = true) : partD d = false := by
  cases d <;> first | rfl | (simp [isTup] at h)
/-- over a tuple, any values that are reckoned from the items alone -/
theorem lcV_tup {α : Type} {K : PySem.W.Frag} {a : Addr} {ys : List α} {te : TE} {j : Nat} {σ : L2.St} {H1 : Hp} {D : Addr} {Qd : Hp → Prop} (g f : α → V) (hD : H1 D = none) (hS : H1 a = some (.tup (ys.map g))) (hz : ys.length < sizeLine)
    (he : ∀ y, y ∈ ys → ∀ (H : Hp) (Q : VK), Same H1 H → (∀ H', Same H H' → Q (f y) H') → te ((σ.set j none).set j (some (g y))) H Q)
    (hd : ∀ H, Same H1 H → H D = some (.lst (ys.map f)) → Qd H) :
    ∃ W : Nat → Nat → Hp → Prop, (∃ m, W 0 m (upd H1 D (.lst []))) ∧ ∀ i m H, W i m H →
      ((Itt K a).stop i H ∧ Qd H) ∨ ((Itt K a).go i H ∧ ∃ Nx : Hp → Prop, (∀ H', Nx H' → ∃ m', m' < m ∧ W (i + 1) m' H') ∧ ∀ y H', (Itt K a).yld i H y H' → gName j y (wipe σ [j]) H' fun σ2 H2 => wipe σ2 [j] = wipe σ [j] ∧ tYes σ2 H2 fun b H3 =>
        if b = true then te σ2 H3 fun z H4 => ∃ acc, H4 D = some (.lst acc) ∧ acc.length < sizeLine ∧ Nx (upd H4 D (.lst (acc ++ [z]))) else Nx H3) := by
  refine lc_tup (K := K) (a := a) (xs := ys.map g) (vs := [j]) (fun i H => Same H1 H ∧ H D = some (.lst ((ys.take i).map f))) ⟨same_upd hD, upd_same⟩ (fun i H _ p => SqT.of (p.1 _ _ hS)) ?_ ?_
  · rintro i x H hx ⟨sm, hl⟩
    obtain ⟨y, ey, rfl⟩ : ∃ y, ys[i]? = some y ∧ x = g y := by
      rw [List.getElem?_map] at hx
      cases e : ys[i]? with
      | none => rw [e] at hx; cases hx
      | some z => rw [e] at hx; exact ⟨z, rfl, (Option.some.inj hx).symm⟩
    refine ⟨by simp [wipe1, List.set_set], ?_⟩
    refine he y (List.mem_of_getElem? ey) H _ sm fun H2 s2 => ?_
    refine ⟨_, s2 _ _ hl, ?_, fun b o e => ?_, ?_⟩
    · rw [List.length_map, List.length_take]; omega
    · rw [upd_ne (ne_of_none e hD)]; exact s2 _ _ (sm _ _ e)
    · rw [upd_same, take_step ey, List.map_append]; rfl
  · rintro H ⟨sm, hl⟩
    rw [List.length_map, List.take_length] at hl
    exact hd H sm hl
def spPT : Sp := fun vs H Q _ => ∃ v d, vs = [v] ∧ TD H v d ∧ partD d = true ∧ Q (.str (partTxt d)) H
/-- text_of(value), value n deep at most -/
def spText (n : Nat) : Sp := fun vs H Q _ => ∃ v d, vs = [v] ∧ TD H v d ∧ nest n d = true ∧ (textOf d).length < 2 ^ 20 ∧ ∀ H', Same H H' → Q (.str (textOf d)) H'
/-- _law_text(value) -/
def spLText (n : Nat) : Sp := fun vs H Q _ => ∃ v d, vs = [v] ∧ TD H v d ∧ (partD d || nest n d) = true ∧ (textOf d).length < 2 ^ 20 ∧ ∀ H', Same H H' → Q (.str (textOf d)) H'
theorem log_part {i : Int} (h : i.natAbs < 10 ^ 300) : i.natAbs.log2 < 1920 := by
  have : (10 : Nat) ^ 300 < 2 ^ 1000 := by decide +kernel
  have := PySem.Flt.log2_lt_of (show 0 < 1000 by decide) (Nat.lt_trans h this)
  omega
section
variable {P : Program} {w : World} {K : PySem.W.Frag} {mg : Str → Option Value} {base : Heap} {A : Nat → Addr} {D : Nat → FuncData}
theorem ok_pt (T : Txt P K mg A D) : FnG P w K mg base CX0 1 (A 5) (D 5) ["value"] spPT := by
  refine def_ok0 T.F_part_text sc_part_text (fun vs H Q E h => ?_) (fun cdv Ar outer s H vs Q E hr hG h => ?_)
  · obtain ⟨a, d, rfl, _⟩ := h; rfl
  · obtain ⟨v, d, rfl, hv, hp, q⟩ := h
    refine ⟨_, (pss_cons (ps_if (pt_cmpR op_isN (pv 0) pe_non (nomark _)) (pss_one (ps_ret (pe_gl T.c_NONE))) pss_nil)
      (pss_one (ps_ret (pe_ifExp (pt_cmpR op_eq (pv 0) pe_str (nomark _)) (pe_gl T.c_EMPTY) (pe_callTy call_str_V (by rfl) T.n_str (by decide +kernel) (pa_cons (pv 0) pa_nil)))))), ?_⟩
    refine ⟨_, rfl, rfl, _, rfl, ite2 (fun e => ?_) (fun e => ?_)⟩
    · have ev : v = .non := of_decide_eq_true e
      subst ev
      cases hv
      exact q
    · cases hv with
      | non => exact absurd (decide_eq_true rfl) e
      | bl b => cases hp
      | lst _ _ => cases hp
      | tup _ _ => cases hp
      | int i =>
        refine ⟨_, rfl, rfl, _, rfl, ite2 (fun e => ?_) (fun e => ?_)⟩
        · exact absurd (of_decide_eq_true e) (fun z => by cases z)
        · exact ⟨_, rfl, _, rfl, .inl ⟨i, rfl, log_part (of_decide_eq_true hp), q⟩⟩
      | str z hz =>
        refine ⟨_, rfl, rfl, _, rfl, ite2 (fun e => ?_) (fun e => ?_)⟩
        · have ez : z = "" := V.str.inj (of_decide_eq_true e)
          rw [show partTxt (.str z) = "-" from if_pos ez] at q
          exact q
        · have ez : z ≠ "" := fun y => e (decide_eq_true (by rw [y]))
          rw [show partTxt (.str z) = z from if_neg ez] at q
          exact ⟨_, rfl, _, rfl, .inr ⟨z, rfl, q⟩⟩
theorem ok_text (T : Txt P K mg A D) : ∀ n : Nat, FnG P w K mg base CX0 (n + 2) (A 6) (D 6) ["value"] (spText n)
  | 0 => by
    refine def_ok0 T.F_text_of sc_text_of (fun vs H Q E h => ?_) (fun cdv Ar outer s H vs Q E hr hG h => ?_)
    · obtain ⟨a, d, rfl, _⟩ := h; rfl
    · obtain ⟨v, d, _, _, hn, _⟩ := h
      cases hn
  | n + 1 => by
    have G_text_of := ok_text T n
    have G_part_text := ok_pt (P := P) (w := w) (base := base) T
    refine def_ok0 (k := n + 2) T.F_text_of sc_text_of (fun vs H Q E h => ?_) (fun cdv Ar outer s H vs Q E hr hG h => ?_)
    · obtain ⟨a, d, rfl, _⟩ := h; rfl
    · obtain ⟨v, d, rfl, hv, hn, hl, q⟩ := h
      refine ⟨_, (pss_cons (ps_setLc (i := 1) (own := [("one", 2)]) (g := gName 2) (tt := tYes) (by rfl) sc_text_of.nd rfl rfl (sw_true rfl rfl rfl (by decide +kernel)) (pi_tup (pv 0)) (blkOk_by (own := [("one", 2)]) (N := ["value", "inner", "one"]) (sc := defScope s_text_of) (by decide +kernel)) (fun _ _ _ _ _ => pg_name (i := 2) sc_text_of.nd rfl (by first | exact Or.inl rfl | exact Or.inr rfl | exact Or.inr (Or.inl rfl))) (fun _ _ _ _ _ => pts_nil) (fun _ _ _ _ _ => (pe_ifExp (pt_val (pe_callB (id := "isinstance") (call_isiX (K := K)) (by rfl) T.n_isinstance (by decide +kernel) (pa_cons (pv 2) (pa_cons (pe_bltn (v := .ty "tuple") (by rfl) T.n_tuple (by decide +kernel) rfl) pa_nil)))) (pe_cg G_text_of (hr.mono (by first | decide | omega)) hG (by rfl) T.g_text_of T.F_text_of.kp T.b_text_of pass0 (pa_cons (pv 2) pa_nil)) (pe_cg G_part_text (hr.mono (by first | decide | omega)) hG (by rfl) T.g_part_text T.F_part_text.kp T.b_part_text pass0 (pa_cons (pv 2) pa_nil)))))
      (pss_one (ps_ret (pe_op op_add_str (pe_op op_add_str (pe_gl T.c_OPENING) (pe_join (pe_gl T.c_BLANK) (pv 1))) (pe_gl T.c_CLOSING))))), ?_⟩
      cases hv with
      | @tup a xs ds e r =>
        obtain ⟨ys, rfl, rfl, hys⟩ := r.pairs
        have hl2 : (brk (textsOf (ys.map (·.2)))).length < 2 ^ 20 := hl
        rw [textsOf_map] at hl2
        obtain ⟨fit1, fit2⟩ := join_fits hl2
        have ylen : ys.length < 2 ^ 20 := by simpa using fit2
        refine ⟨_, rfl, a, rfl, ⟨_, SqT.of e⟩, fun D1 hD1 => lcV_tup (K := K) (a := a) (ys := ys) (j := 2) (fun y => y.1) (fun y => V.str (textOf y.2)) hD1 e (small20' ylen) (fun y hy H3 Q3 sm3 k3 => ?_) (fun H3 sm3 hD3 => ?_)⟩
        · have ty := (hys y hy).same sm3
          obtain ⟨t, kt, ek⟩ := ty.isTup (K := K)
          have hny : (partD y.2 || nest n y.2) = true := by
            have h1 : (ys.map (·.2)).all (fun d => partD d || nest n d) = true := hn
            exact List.all_eq_true.mp h1 _ (List.mem_map.mpr ⟨y, hy, rfl⟩)
          have hly : (textOf y.2).length < 2 ^ 20 := Nat.lt_of_le_of_lt (len_le_brk (List.mem_map.mpr ⟨y.2, List.mem_map.mpr ⟨y, hy, rfl⟩, rfl⟩)) hl2
          refine ⟨_, rfl, _, .ty "tuple", t, _, _, rfl, .ty _, kt, ek, _, rfl, ite2 (fun e2 => ?_) (fun e2 => ?_)⟩
          · rw [partD_tup e2, Bool.false_or] at hny
            exact ⟨_, rfl, y.1, y.2, rfl, ty, hny, hly, k3⟩
          · have e3 : isTup y.2 = false := Bool.eq_false_iff.mpr e2
            have e4 : nest n y.2 = false := by
              cases n with
              | zero => rfl
              | succ n => cases hd : y.2 <;> first | rfl | (rw [hd] at e3; cases e3)
            rw [e4, Bool.or_false] at hny
            refine ⟨_, rfl, y.1, y.2, rfl, ty, hny, ?_⟩
            have k4 := k3 H3 (Same.refl _)
            rw [textOf_part e3] at k4
            exact k4
        · have hD4 : H3 D1 = some (.lst (((ys.map (·.2)).map textOf).map V.str)) := by rw [hD3, List.map_map, List.map_map]; rfl
          have bl := brk_len ((ys.map (·.2)).map textOf)
          have lb : ("(" : Str).length = 1 := rfl
          have lc : (")" : Str).length = 1 := rfl
          refine ⟨⟨_, rfl⟩, _, rfl, _, D1, _, rfl, rfl, .inl (SqL.of hD4), fit1, _, _, rfl, rfl, (by rw [sizeLine_eq]; omega), _, _, rfl, rfl, (by rw [sizeLine_eq, len_app]; omega), ?_⟩
          have q2 := q H3 sm3
          rw [show textOf (.tuple (ys.map (·.2))) = brk ((ys.map (·.2)).map textOf) by rw [textOf, textsOf_map]] at q2
          exact q2
      | _ => cases hn
theorem ltext_step (T : Txt P K mg A D) (n : Nat) (G__law_text : FnG P w K mg base CX0 n (A 18) (D 18) ["value"] (fun vs H Q E => ∃ m, m + 1 = n ∧ spLText m vs H Q E)) :
    FnG P w K mg base CX0 (n + 1) (A 18) (D 18) ["value"] (spLText n) := by
    refine def_ok0 (k := n) T.F__law_text sc__law_text (fun vs H Q E h => ?_) (fun cdv Ar outer s H vs Q E hr hG h => ?_)
    · obtain ⟨a, d, rfl, _⟩ := h; rfl
    · obtain ⟨v, d, rfl, hv, hn, hl, q⟩ := h
      refine ⟨_, (pss_cons (ps_if (pt_cmpR op_isN (pv 0) pe_non (nomark _)) (pss_one (ps_ret pe_str)) pss_nil)
      (pss_cons (ps_if (pt_val (pe_callB call_isi (by rfl) T.n_isinstance (by decide +kernel) (pa_cons (pv 0) (pa_cons (pe_bltn (v := .ty "tuple") (by rfl) T.n_tuple (by decide +kernel) rfl) pa_nil)))) (pss_one (ps_ret (pe_op op_add_str (pe_op op_add_str pe_str (pe_join pe_str (pe_lc (own := [("one", 1)]) (g := gName 1) (tt := tYes) (by rfl) sc__law_text.nd (pi_tup (pv 0)) (blkOk_by (own := [("one", 1)]) (N := ["value", "one"]) (sc := defScope s__law_text) (by decide +kernel)) (fun _ _ _ _ _ => pg_name (i := 1) sc__law_text.nd rfl (by first | exact Or.inl rfl | exact Or.inr rfl | exact Or.inr (Or.inl rfl))) (fun _ _ _ _ _ => pts_nil) (fun _ _ _ _ _ => (pe_cg G__law_text (hr.mono (by first | decide | omega)) hG (by rfl) T.g__law_text T.F__law_text.kp T.b__law_text pass0 (pa_cons (pv 1) pa_nil)))))) pe_str))) pss_nil)
      (pss_one (ps_ret (pe_ifExp (pt_cmpR op_eq (pv 0) pe_str (nomark _)) pe_str (pe_callTy call_str_V (by rfl) T.n_str (by decide +kernel) (pa_cons (pv 0) pa_nil))))))), ?_⟩
      obtain ⟨t, kt, ek⟩ := hv.isTup (K := K)
      refine ⟨_, rfl, rfl, _, rfl, ite2 (fun e => ?_) (fun e => ?_)⟩
      · have ev : v = .non := of_decide_eq_true e
        subst ev
        cases hv
        exact q H (Same.refl _)
      · refine ⟨_, rfl, _, .ty "tuple", t, _, _, rfl, .ty _, kt, ek, _, rfl, ite2 (fun e2 => ?_) (fun e2 => ?_)⟩
        · cases hv with
          | @tup a xs ds e r =>
            obtain ⟨ys, rfl, rfl, hys⟩ := r.pairs
            have hl2 : (brk (textsOf (ys.map (·.2)))).length < 2 ^ 20 := hl
            rw [textsOf_map] at hl2
            obtain ⟨fit1, fit2⟩ := join_fits hl2
            have ylen : ys.length < 2 ^ 20 := by simpa using fit2
            have hn2 : nest n (.tuple (ys.map (·.2))) = true := hn
            cases n with
            | zero => cases (show false = true from hn2)
            | succ m =>
              refine ⟨⟨_, rfl⟩, _, rfl, a, rfl, ⟨_, SqT.of e⟩, fun D1 hD1 => lcV_tup (K := K) (a := a) (ys := ys) (j := 1) (fun y => y.1) (fun y => V.str (textOf y.2)) hD1 e (small20' ylen) (fun y hy H3 Q3 sm3 k3 => ?_) (fun H3 sm3 hD3 => ?_)⟩
              · have hny : (partD y.2 || nest m y.2) = true := List.all_eq_true.mp (show (ys.map (·.2)).all (fun d => partD d || nest m d) = true from hn2) _ (List.mem_map.mpr ⟨y, hy, rfl⟩)
                have hly : (textOf y.2).length < 2 ^ 20 := Nat.lt_of_le_of_lt (len_le_brk (List.mem_map.mpr ⟨y.2, List.mem_map.mpr ⟨y, hy, rfl⟩, rfl⟩)) hl2
                exact ⟨_, rfl, m, rfl, y.1, y.2, rfl, (hys y hy).same sm3, hny, hly, k3⟩
              · have hD4 : H3 D1 = some (.lst (((ys.map (·.2)).map textOf).map V.str)) := by rw [hD3, List.map_map, List.map_map]; rfl
                have bl := brk_len ((ys.map (·.2)).map textOf)
                have lb : ("(" : Str).length = 1 := rfl
                have lc : (")" : Str).length = 1 := rfl
                refine ⟨_, D1, _, rfl, rfl, .inl (SqL.of hD4), fit1, _, _, rfl, rfl, (by rw [sizeLine_eq]; omega), _, _, rfl, rfl, (by rw [sizeLine_eq, len_app]; omega), ?_⟩
                have q2 := q H3 sm3
                rw [show textOf (.tuple (ys.map (·.2))) = brk ((ys.map (·.2)).map textOf) by rw [textOf, textsOf_map]] at q2
                exact q2
          | _ => cases e2
        · have e3 : isTup d = false := Bool.eq_false_iff.mpr e2
          have hp : partD d = true := by
            cases hd : nest n d with
            | false => rw [hd, Bool.or_false] at hn; exact hn
            | true =>
              cases n with
              | zero => cases (show false = true from hd)
              | succ m => cases d <;> first | (cases e3; done) | (cases (show false = true from hd))
          have q2 := q H (Same.refl _)
          rw [textOf_part e3] at q2
          cases hv with
          | non => exact absurd (decide_eq_true rfl) e
          | bl b => cases hp
          | lst _ _ => cases hp
          | tup _ _ => cases hp
          | int i =>
            refine ⟨_, rfl, rfl, _, rfl, ite2 (fun e => ?_) (fun e => ?_)⟩
            · exact absurd (of_decide_eq_true e) (fun z => by cases z)
            · exact ⟨_, rfl, _, rfl, .inl ⟨i, rfl, log_part (of_decide_eq_true hp), q2⟩⟩
          | str z hz =>
            refine ⟨_, rfl, rfl, _, rfl, ite2 (fun e => ?_) (fun e => ?_)⟩
            · have ez : z = "" := V.str.inj (of_decide_eq_true e)
              rw [show partTxt (.str z) = "-" from if_pos ez] at q2
              exact q2
            · have ez : z ≠ "" := fun y => e (decide_eq_true (by rw [y]))
              rw [show partTxt (.str z) = z from if_neg ez] at q2
              exact ⟨_, rfl, _, rfl, .inr ⟨z, rfl, q2⟩⟩
theorem ok_ltext (T : Txt P K mg A D) : ∀ n : Nat, FnG P w K mg base CX0 (n + 1) (A 18) (D 18) ["value"] (spLText n)
  | 0 => ltext_step T 0 ⟨fun vs H Q E ⟨m, e, _⟩ => absurd e (by omega), fun A outer s H args us vs Q E _ _ _ _ _ ⟨m, e, _⟩ => absurd e (by omega)⟩
  | m + 1 => by
    have F := ok_ltext T m
    refine ltext_step T (m + 1) ⟨fun vs H Q E ⟨m', e, h⟩ => F.len vs H Q E (by rw [show m = m' by omega]; exact h), fun A outer s H args us vs Q E h1 h2 h3 h4 h5 ⟨m', e, h⟩ => F.run A outer s H args us vs Q E h1 h2 h3 h4 h5 (by rw [show m = m' by omega]; exact h)⟩
end
end My

namespace My
open PySem PySem.Spec PyProof.Rows L2
/-! ### a text's words -/
def brac (c : Nat) : Bool := decide (c = 40) || decide (c = 41)
def plain (c : Nat) : Bool := !(brac c || decide (c = 32))
def toks : List Nat → List (List Nat)
  | [] => []
  | c :: r => if c = 32 then toks r else if brac c = true then [c] :: toks r else (c :: r.takeWhile plain) :: toks (r.dropWhile plain)
termination_by l => l.length
decreasing_by
  · simp
  · simp
  · have := (List.dropWhile_sublist (l := r) plain).length_le
    simp only [List.length_cons]; omega
theorem tw_take {p : Nat → Bool} : ∀ (m : Nat) (r : List Nat), (∀ k, k < m → ∃ x, r[k]? = some x ∧ p x = true) → (r.length ≤ m ∨ ∃ x, r[m]? = some x ∧ p x = false) → r.takeWhile p = r.take m ∧ r.dropWhile p = r.drop m
  | 0, [], _, _ => ⟨rfl, rfl⟩
  | 0, c :: r, _, h2 => by
    rcases h2 with h2 | ⟨x, e, h2⟩
    · simp at h2
    · simp at e
      subst e
      simp [List.takeWhile_cons, List.dropWhile_cons, h2]
  | m + 1, [], _, _ => ⟨rfl, rfl⟩
  | m + 1, c :: r, h1, h2 => by
    obtain ⟨x, e, hx⟩ := h1 0 (by omega)
    simp at e
    subst e
    obtain ⟨i1, i2⟩ := tw_take m r (fun k hk => by
      obtain ⟨y, e, hy⟩ := h1 (k + 1) (by omega)
      exact ⟨y, by simpa using e, hy⟩) (by
      rcases h2 with h2 | ⟨y, e, hy⟩
      · left; simp at h2; exact h2
      · right; exact ⟨y, by simpa using e, hy⟩)
    simp [List.takeWhile_cons, List.dropWhile_cons, hx, i1, i2]
theorem toks_blank {c : Nat} {r : List Nat} (h : c = 32) : toks (c :: r) = toks r := by rw [toks, if_pos h]
theorem toks_word {c : Nat} {r : List Nat} (m : Nat) (h : c ≠ 32) (hb : brac c = true → m = 0) (h1 : ∀ k, k < m → ∃ x, r[k]? = some x ∧ plain x = true) (h2 : brac c = true ∨ r.length ≤ m ∨ ∃ x, r[m]? = some x ∧ plain x = false) :
    toks (c :: r) = (c :: r.take m) :: toks (r.drop m) := by
  rw [toks, if_neg h]
  by_cases b : brac c = true
  · rw [if_pos b, hb b]; rfl
  · rw [if_neg b]
    obtain ⟨e1, e2⟩ := tw_take (p := plain) m r h1 (h2.resolve_left b)
    rw [e1, e2]
theorem brac_in (c : Nat) : decide (c ∈ ("()" : Str).cps.toList) = brac c := by
  unfold brac
  rw [show ("()" : Str).cps.toList = [40, 41] from rfl, ← Bool.decide_or]
  refine decide_eq_decide.mpr ?_
  simp
theorem plain_in (c : Nat) : (!decide (c ∈ (("()" : Str) ++ (" " : Str)).cps.toList)) = plain c := by
  unfold plain brac
  rw [show (("()" : Str) ++ (" " : Str)).cps.toList = [40, 41, 32] by decide +kernel, ← Bool.decide_or, ← Bool.decide_or]
  congr 1
  refine decide_eq_decide.mpr ?_
  simp [or_assoc]
def ofL (l : List Nat) : Str := ⟨l.toArray⟩
theorem cutS_mid (s : Str) {a e : Nat} (h1 : a ≤ e) (h2 : e ≤ s.length) : (cutS s (some a) (some e)).cps.toList = (s.cps.toList.drop a).take (e - a) := by
  have es : s.cps.toList.length = s.length := Array.length_toList
  unfold cutS
  rw [show HT.sIx s.length 0 (some (a : Int)) = min a s.length from HT.sIx_nat _ _ a, show HT.sIx s.length s.length (some (e : Int)) = min e s.length from HT.sIx_nat _ _ e]
  show (s.cps.toList.drop (min a s.length)).take (min e s.length - min a s.length) = _
  rw [show min a s.length = a from Nat.min_eq_left (Nat.le_trans h1 h2), show (min e s.length : Nat) = e from Nat.min_eq_left h2]
def spWI : Sp := fun vs H Q _ => ∃ t : Str, vs = [.str t] ∧ t.length < 2 ^ 20 ∧ ∀ p H', Same H H' → H p = none → H' p = some (.lst ((toks t.cps.toList).map fun l => V.str (ofL l))) → Q (.ref p) H'
section
variable {P : Program} {w : World} {K : PySem.W.Frag} {mg : Str → Option Value} {base : Heap} {A : Nat → Addr} {D : Nat → FuncData}
theorem ok_wi (T : Txt P K mg A D) : FnG P w K mg base CX0 1 (A 8) (D 8) ["text"] spWI := by
  refine def_ok0 T.F_words_in sc_words_in (fun vs H Q E h => ?_) (fun cdv Ar outer s H vs Q E hr hG h => ?_)
  · obtain ⟨a, rfl, _⟩ := h; rfl
  · obtain ⟨t, rfl, hl, q⟩ := h
    refine ⟨_, (pss_cons (ps_par (i := 1) (j := 2) (by rfl) sc_words_in.nd rfl rfl (by decide) rfl rfl (pa_cons (pe_lst pa_nil) (pa_cons pe_int pa_nil)) (by rfl))
      (pss_cons (ps_while (by first | exact PassesOwn.never | exact PassesOwn.leaving | exact L2.passes_of rfl) (pt_cut (pt_cmpR op_lt (pv 2) (pe_callB call_len_str (by rfl) T.n_len PySem.boot_len (pa_cons (pv 0) pa_nil)) (nomark _))) (pss_one (ps_if (pt_cmpR op_eq (pe_ix ix_str (pv 0) (pv 2) (fun _ _ => rfl)) (pe_gl T.c_BLANK) (nomark _)) (pss_one (ps_set (i := 2) sc_words_in.nd rfl (Or.inl rfl) (pe_op op_add (pv 2) pe_int))) (pss_cons (ps_set (i := 3) sc_words_in.nd rfl (Or.inl rfl) (pe_op op_add (pv 2) pe_int))
      (pss_cons (ps_while (by first | exact PassesOwn.never | exact PassesOwn.leaving | exact L2.passes_of rfl) (pt_cut (PW.pt (pw_and (pt_cmpR op_notIn_sign (pe_ix ix_str (pv 0) (pv 2) (fun _ _ => rfl)) (pe_gl T.c_BRACKETS) rfl) (pw_and (pt_cmpR op_lt (pv 3) (pe_callB call_len_str (by rfl) T.n_len PySem.boot_len (pa_cons (pv 0) pa_nil)) (nomark _)) (pw_and1 (pt_cmpR op_notIn_sign (pe_ix ix_str (pv 0) (pv 3) (fun _ _ => rfl)) (pe_op op_add_str (pe_gl T.c_BRACKETS) (pe_gl T.c_BLANK)) rfl)))))) (pss_one (ps_set (i := 3) sc_words_in.nd rfl (Or.inl rfl) (pe_op op_add (pv 3) pe_int))))
      (pss_cons (ps_expr (pe_bm PySem.F.plainAttrs_list PySem.F.slot_list_append PySem.F.type_list_append mt_append (pv 1) (pa_cons (pe_slice sl_str (pv 0) (po_some (pv 2)) (po_some (pv 3))) pa_nil)))
      (pss_one (ps_set (i := 2) sc_words_in.nd rfl (Or.inl rfl) (pv 3)))))))))
      (pss_one (ps_ret (pv 1))))), ?_⟩
    have es : t.cps.toList.length = t.length := Array.length_toList
    refine ⟨(by show 0 ≤ sizeLine; decide), fun F hF => ⟨_, _, rfl, ?_⟩⟩
    refine while_by (fun σ H' => ∃ (a : Nat) (done : List (List Nat)) (i1 : Option V), σ = [some (.str t), some (.ref F), some (.int a), i1] ∧ a ≤ t.length ∧ (∀ b o, b ≠ F → H b = some o → H' b = some o) ∧ H' F = some (.lst (done.map fun l => V.str (ofL l))) ∧ done.length ≤ a ∧ done ++ toks (t.cps.toList.drop a) = toks t.cps.toList)
      (fun σ _ => match σ with | [_, _, some (.int a), _] => (t.length - a).toNat | _ => 0) ⟨0, [], none, rfl, Nat.zero_le _, fun b o n e => by rw [upd_ne n]; exact e, upd_same, by simp, by simp⟩ ?_ ?_
    · rintro σ H1 ⟨a, done, i1, rfl, ha, k1, hF1, hd, ht⟩
      refine ⟨fun b H2 => b = decide (a < t.length) ∧ H2 = H1, ⟨_, rfl, _, rfl, t, rfl, small20 hl, a, _, rfl, rfl, _, rfl, by simp, rfl⟩, ?_⟩
      rintro b H2 ⟨rfl, rfl⟩
      refine ite2 (fun e => ?_) (fun e => ?_)
      · have ea : a < t.length := of_decide_eq_true e
        obtain ⟨c, r, hc⟩ : ∃ c r, t.cps.toList.drop a = c :: r := by
          cases hh : t.cps.toList.drop a with
          | nil => have := congrArg List.length hh; rw [List.length_drop, List.length_nil] at this; omega
          | cons c r => exact ⟨c, r, rfl⟩
        have atc : t.cps.toList[a]? = some c := by
          have := congrArg (fun l => l[0]?) hc
          simpa using this
        have dr : t.cps.toList.drop (a + 1) = r := by
          have := congrArg (List.drop 1) hc
          rw [List.drop_drop] at this
          exact this
        have rlen : r.length + a + 1 = t.length := by
          have := congrArg List.length hc
          rw [List.length_drop, List.length_cons] at this; omega
        refine ⟨_, rfl, _, rfl, t, a, c, rfl, rfl, small20 hl, atI_nat atc, rfl, _, rfl, ite2 (fun e2 => ?_) (fun e2 => ?_)⟩
        · have ec : c = 32 := by
            have z := V.str.inj (of_decide_eq_true e2)
            have z2 : [c] = [32] := congrArg (fun s : Str => s.cps.toList) z
            exact (List.cons.inj z2).1
          rw [hc, toks_blank ec] at ht
          refine ⟨_, rfl, _, _, rfl, rfl, ⟨a + 1, done, i1, rfl, by omega, k1, hF1, by omega, by rw [dr]; exact ht⟩, ?_⟩
          show ((t.length : Int) - ((a : Int) + 1)).toNat < ((t.length : Int) - (a : Int)).toNat
          omega
        · have ec : c ≠ 32 := fun z => e2 (decide_eq_true (by rw [z]; rfl))
          refine ⟨_, rfl, _, _, rfl, rfl, ?_⟩
          refine while_by (fun σ H' => ∃ e : Nat, σ = [some (.str t), some (.ref F), some (.int a), some (.int e)] ∧ H' = H2 ∧ a < e ∧ e ≤ t.length ∧ (∀ k, k < e - a - 1 → ∃ x, r[k]? = some x ∧ plain x = true) ∧ (brac c = true → e = a + 1))
            (fun σ _ => match σ with | [_, _, _, some (.int e)] => (t.length - e).toNat | _ => 0) ⟨a + 1, rfl, rfl, by omega, by omega, fun k hk => by omega, fun _ => rfl⟩ ?_ ?_
          · rintro σ H' ⟨e, rfl, rfl, h1, h2, h3, h4⟩
            refine ⟨fun b H3 => H3 = H' ∧ (b = true → brac c = false ∧ ∃ x, r[e - a - 1]? = some x ∧ plain x = true) ∧ (b = false → brac c = true ∨ r.length ≤ e - a - 1 ∨ ∃ x, r[e - a - 1]? = some x ∧ plain x = false), ?_, ?_⟩
            · refine ⟨_, rfl, _, rfl, t, a, c, rfl, rfl, small20 hl, atI_nat atc, c, _, rfl, rfl, _, rfl, ?_⟩
              rw [brac_in]
              cases hb : brac c with
              | true => exact ⟨rfl, fun z => Bool.noConfusion z, fun _ => .inl rfl⟩
              | false =>
                refine ⟨_, rfl, _, rfl, t, rfl, small20 hl, e, _, rfl, rfl, _, rfl, ite2 (fun e3 => ?_) (fun e3 => ?_)⟩
                · have e4 : e < t.length := by have := of_decide_eq_true e3; omega
                  obtain ⟨x, hx⟩ : ∃ x, r[e - a - 1]? = some x := ⟨_, List.getElem?_eq_getElem (by omega)⟩
                  have hx2 : t.cps.toList[e]? = some x := by
                    rw [← dr, List.getElem?_drop, show a + 1 + (e - a - 1) = e by omega] at hx
                    exact hx
                  refine ⟨_, rfl, _, rfl, t, e, x, rfl, rfl, small20 hl, atI_nat hx2, _, _, rfl, rfl, (by rw [sizeLine_eq]; decide), x, _, rfl, rfl, _, rfl, rfl, ?_⟩
                  rw [plain_in]
                  exact ⟨fun z => ⟨rfl, x, hx, z⟩, fun z => .inr (.inr ⟨x, hx, z⟩)⟩
                · have e4 : ¬ ((e : Int) < t.length) := fun z => e3 (decide_eq_true z)
                  exact ⟨rfl, fun z => Bool.noConfusion z, fun _ => .inr (.inl (by omega))⟩
            · rintro b H3 ⟨rfl, hb1, hb2⟩
              cases b with
              | true =>
                obtain ⟨n1, x, hx, px⟩ := hb1 rfl
                have lt : e - a - 1 < r.length := (List.getElem?_eq_some_iff.mp hx).1
                refine ⟨_, rfl, _, _, rfl, rfl, ⟨e + 1, rfl, rfl, by omega, by omega, fun k hk => ?_, fun z => by rw [n1] at z; cases z⟩, ?_⟩
                · by_cases hk2 : k < e - a - 1
                  · exact h3 k hk2
                  · rw [show k = e - a - 1 by omega]; exact ⟨x, hx, px⟩
                · show ((t.length : Int) - ((e : Int) + 1)).toNat < ((t.length : Int) - (e : Int)).toNat
                  omega
              | false =>
                have tw := toks_word (r := r) (e - a - 1) ec (fun z => by rw [h4 z]; omega) h3 (hb2 rfl)
                have tok : cutS t (some (a : Int)) (some (e : Int)) = ofL (c :: r.take (e - a - 1)) := by
                  refine str_eq ?_
                  rw [cutS_mid t (by omega) h2, hc, show e - a = (e - a - 1) + 1 by omega]
                  rfl
                have rest : t.cps.toList.drop e = r.drop (e - a - 1) := by
                  rw [← dr, List.drop_drop, show a + 1 + (e - a - 1) = e by omega]
                refine ⟨_, rfl, .inl ⟨rfl, _, SqL.of hF1⟩, _, rfl, _, rfl, _, rfl, _, rfl, _, rfl, t, rfl, small20 hl, F, _, _, rfl, rfl, hF1, (by rw [List.length_map]; exact small20' (by omega)), ?_⟩
                refine ⟨_, rfl, ⟨e, done ++ [c :: r.take (e - a - 1)], some (.int e), rfl, h2, fun b o n z => by rw [upd_ne n]; exact k1 b o n z, ?_, by rw [List.length_append, List.length_singleton]; omega, ?_⟩, ?_⟩
                · rw [upd_same, tok, List.map_append]; rfl
                · rw [rest, ← ht, hc, tw, List.append_assoc]; rfl
                · show ((t.length : Int) - (e : Int)).toNat < ((t.length : Int) - (a : Int)).toNat
                  omega
          · rintro σ H' Q1 Q2 hh ⟨φ, x, y⟩
            exact ⟨φ, x, fun b H2 z => hh _ _ (y b H2 z)⟩
      · have ea : a = t.length := by
          have := of_decide_eq_false (Bool.eq_false_iff.mpr e); omega
        rw [ea, ← es, List.drop_length] at ht
        rw [show toks [] = [] by rw [toks], List.append_nil] at ht
        refine ⟨_, rfl, q F H2 (fun b o z => k1 b o (fun y => by rw [y, hF] at z; cases z) z) hF ?_⟩
        rw [hF1, ht]
    · rintro σ H' Q1 Q2 hh ⟨φ, x, y⟩
      exact ⟨φ, x, fun b H2 z => hh _ _ (y b H2 z)⟩
end
end My

namespace My
open PySem PySem.Spec PyProof.Rows L2
def partIn (w : Str) : Option PyData := if w = "!" then some .none else if w = "-" then some (.str "") else match readInt w with
  | some n => some (.int n)
  | none => if signWord w = true then some (.str w) else none
def partL (w : Str) : List PyData := match partIn w with
  | some d => [d]
  | none => []
/-- part_in(word) -/
def spPI : Sp := fun vs H Q _ => ∃ w : Str, vs = [.str w] ∧ w.length < 2 ^ 20 ∧ ∀ p xs H', Same H H' → H p = none → H' p = some (.tup xs) → TDs H' xs (partL w) → Q (.ref p) H'
section
variable {P : Program} {w : World} {K : PySem.W.Frag} {mg : Str → Option Value} {base : Heap} {A : Nat → Addr} {D : Nat → FuncData}
theorem ok_pi (T : Txt P K mg A D) : FnG P w K mg base CX0 2 (A 9) (D 9) ["word"] spPI := by
  have G_read_integer := ok_ri (P := P) (w := w) (base := base) T
  have G_is_sign_word := ok_sw (P := P) (w := w) (base := base) T
  refine def_ok0 T.F_part_in sc_part_in (fun vs H Q E h => ?_) (fun cdv Ar outer s H vs Q E hr hG h => ?_)
  · obtain ⟨a, rfl, _⟩ := h; rfl
  · obtain ⟨wd, rfl, hl, q⟩ := h
    refine ⟨_, (pss_cons (ps_if (pt_cmpR op_eq (pv 0) (pe_gl T.c_NONE) (nomark _)) (pss_one (ps_ret (pe_tup (pa_cons pe_non pa_nil)))) pss_nil)
      (pss_cons (ps_if (pt_cmpR op_eq (pv 0) (pe_gl T.c_EMPTY) (nomark _)) (pss_one (ps_ret (pe_tup (pa_cons pe_str pa_nil)))) pss_nil)
      (pss_cons (ps_set (i := 1) sc_part_in.nd rfl (Or.inl rfl) (pe_cg G_read_integer (hr.mono (by first | decide | omega)) hG (by rfl) T.g_read_integer T.F_read_integer.kp T.b_read_integer pass0 (pa_cons (pv 0) pa_nil)))
      (pss_cons (ps_if (pt_cmpR op_notN (pv 1) pe_non (nomark _)) (pss_one (ps_ret (pe_tup (pa_cons (pv 1) pa_nil)))) pss_nil)
      (pss_one (ps_ret (pe_ifExp (pt_val (pe_cg G_is_sign_word (hr.mono (by first | decide | omega)) hG (by rfl) T.g_is_sign_word T.F_is_sign_word.kp T.b_is_sign_word pass0 (pa_cons (pv 0) pa_nil))) (pe_tup (pa_cons (pv 0) pa_nil)) (pe_tup pa_nil)))))))), ?_⟩
    refine ⟨_, rfl, rfl, _, rfl, ite2 (fun e => ?_) (fun e => ?_)⟩
    · have ew : wd = "!" := V.str.inj (of_decide_eq_true e)
      refine ⟨(by show 1 ≤ sizeLine; decide), fun p hp => q p _ _ (same_upd hp) hp upd_same ?_⟩
      rw [show partL wd = [.none] by unfold partL partIn; rw [if_pos ew]]
      exact .cons .non .nil
    · have e1 : wd ≠ "!" := fun z => e (decide_eq_true (by rw [z]))
      refine ⟨_, rfl, rfl, _, rfl, ite2 (fun e2 => ?_) (fun e2 => ?_)⟩
      · have ew : wd = "-" := V.str.inj (of_decide_eq_true e2)
        refine ⟨(by show 1 ≤ sizeLine; decide), fun p hp => q p _ _ (same_upd hp) hp upd_same ?_⟩
        rw [show partL wd = [.str ""] by unfold partL partIn; rw [if_neg e1, if_pos ew]]
        exact .cons (.str _ (by decide)) .nil
      · have e3 : wd ≠ "-" := fun z => e2 (decide_eq_true (by rw [z]))
        refine ⟨_, rfl, wd, rfl, hl, fun H1 sm1 => ?_⟩
        cases hr2 : readInt wd with
        | some n =>
          refine ⟨_, rfl, rfl, _, rfl, ?_⟩
          refine ⟨_, rfl, (by show 1 ≤ sizeLine; decide), fun p hp => q p _ _ (sm1.trans (same_upd hp)) (sm1.free hp) upd_same ?_⟩
          rw [show partL wd = [.int n] by unfold partL partIn; rw [if_neg e1, if_neg e3, hr2]]
          exact .cons (.int n) .nil
        | none =>
          refine ⟨_, rfl, rfl, _, rfl, ?_⟩
          refine ⟨_, rfl, .str wd, rfl, .str wd, (fun s z => by cases z; exact hl), fun H2 sm2 => ⟨_, rfl, ite2 (fun e4 => ?_) (fun e4 => ?_)⟩⟩
          · refine ⟨_, rfl, (by show 1 ≤ sizeLine; decide), fun p hp => q p _ _ ((sm1.trans sm2).trans (same_upd hp)) ((sm1.trans sm2).free hp) upd_same ?_⟩
            have e5 : signWord wd = true := e4
            rw [show partL wd = [.str wd] by unfold partL partIn; rw [if_neg e1, if_neg e3, hr2]; show (match (if signWord wd = true then some (PyData.str wd) else none) with | some d => [d] | none => []) = _; rw [if_pos e5]]
            exact .cons (.str _ hl) .nil
          · refine ⟨(by show 0 ≤ sizeLine; decide), fun p hp => q p _ _ ((sm1.trans sm2).trans (same_upd hp)) ((sm1.trans sm2).free hp) upd_same ?_⟩
            have e5 : ¬ signWord wd = true := e4
            rw [show partL wd = [] by unfold partL partIn; rw [if_neg e1, if_neg e3, hr2]; show (match (if signWord wd = true then some (PyData.str wd) else none) with | some d => [d] | none => []) = _; rw [if_neg e5]]
            exact .nil
end
end My

namespace My
open PySem PySem.Spec PyProof.Rows L2
/-! ### the words of a paper, read -/
mutual
def noL : PyData → Bool
  | .tuple ds => noLs ds
  | .list _ => false
  | .dict _ => false
  | _ => true
def noLs : List PyData → Bool
  | [] => true
  | d :: ds => noL d && noLs ds
end
theorem noLs_append (a b : List PyData) : noLs (a ++ b) = (noLs a && noLs b) := by
  induction a with
  | nil => rfl
  | cons d a ih => simp only [List.cons_append, noLs, ih, Bool.and_assoc]
mutual
theorem TD.keepT {H H' : Hp} (kt : ∀ a xs, H a = some (.tup xs) → H' a = some (.tup xs)) : ∀ (d : PyData) (v : V), noL d = true → TD H v d → TD H' v d
  | .none, _, _, h => by cases h; exact .non
  | .bool b, _, _, h => by cases h; exact .bl b
  | .int i, _, _, h => by cases h; exact .int i
  | .str s, _, _, h => by cases h with | str _ z => exact .str s z
  | .list ds, _, n, h => by cases n
  | .tuple ds, _, n, h => by
    cases h with
    | tup e r => exact .tup (kt _ _ e) (TDs.keepT kt ds _ n r)
  | .dict kvs, _, n, h => by cases h
theorem TDs.keepT {H H' : Hp} (kt : ∀ a xs, H a = some (.tup xs) → H' a = some (.tup xs)) : ∀ (ds : List PyData) (vs : List V), noLs ds = true → TDs H vs ds → TDs H' vs ds
  | [], _, _, h => by cases h; exact .nil
  | d :: ds, _, n, h => by
    have n2 := Bool.and_eq_true_iff.mp n
    cases h with
    | cons h r => exact .cons (TD.keepT kt d _ n2.1 h) (TDs.keepT kt ds _ n2.2 r)
end
abbrev PSt := List (List PyData) × Option PyData
def step (st : PSt) (w : Str) : Option PSt :=
  match st.2, st.1 with
  | some _, _ => none
  | none, [] => if w = "(" then some ([[]], none) else none
  | none, top :: rest =>
    if w = "(" then some ([] :: top :: rest, none)
    else if w = ")" then (match rest with
      | [] => some ([], some (.tuple top))
      | t2 :: r2 => some ((t2 ++ [.tuple top]) :: r2, none))
    else match partIn w with
      | none => none
      | some d => some ((top ++ [d]) :: rest, none)
def run (st : PSt) : List Str → Option PSt
  | [] => some st
  | w :: ws => (step st w).bind fun st2 => run st2 ws
def parse (ws : List Str) : Option PyData := (run ([], none) ws).bind (·.2)
theorem run_split (st : PSt) : ∀ (a b : List Str), run st (a ++ b) = (run st a).bind fun s2 => run s2 b
  | [], b => rfl
  | w :: a, b => by
    show (step st w).bind _ = ((step st w).bind _).bind _
    cases h : step st w with
    | none => rfl
    | some s2 => exact run_split s2 a b
theorem tds_append {H : Hp} : ∀ {vs ws : List V} {ds es : List PyData}, TDs H vs ds → TDs H ws es → TDs H (vs ++ ws) (ds ++ es)
  | _, _, _, _, .nil, r => r
  | _, _, _, _, .cons h r, r2 => .cons h (tds_append r r2)
/-- what the heap holds of a state -/
structure StH (H H' : Hp) (O : Addr) (v : V) (es : List (Addr × List V × List PyData)) (st : PSt) : Prop where
  same : Same H H'
  newO : H O = none
  open_ : H' O = some (.lst (es.reverse.map fun e => V.ref e.1))
  stk : es.map (·.2.2) = st.1
  each : ∀ e ∈ es, H e.1 = none ∧ e.1 ≠ O ∧ H' e.1 = some (.lst e.2.1) ∧ TDs H' e.2.1 e.2.2 ∧ noLs e.2.2 = true
  nodup : (es.map (·.1)).Nodup
  none_ : st.2 = none → v = .non
  some_ : ∀ d, st.2 = some d → TD H' v d ∧ noL d = true ∧ ∃ ds, d = .tuple ds
theorem StH.non_iff {H H' : Hp} {O : Addr} {v : V} {es : List (Addr × List V × List PyData)} {st : PSt} (Z : StH H H' O v es st) : v = .non ↔ st.2 = none := by
  constructor
  · rintro rfl
    cases h : st.2 with
    | none => rfl
    | some d =>
      obtain ⟨t, _, ds, rfl⟩ := Z.some_ d h
      cases t
  · exact Z.none_
theorem StH.keep {H H' H2 : Hp} {O : Addr} {v : V} {es : List (Addr × List V × List PyData)} {st : PSt} (Z : StH H H' O v es st) (s : Same H' H2) : StH H H2 O v es st :=
  { Z with same := Z.same.trans s, open_ := s _ _ Z.open_, each := fun e he => let ⟨a, b, c, d, f⟩ := Z.each e he; ⟨a, b, s _ _ c, d.same s, f⟩, some_ := fun d h => let ⟨a, b⟩ := Z.some_ d h; ⟨a.same s, b⟩ }
/-- a new list on top -/
theorem StH.push {H H' : Hp} {O n : Addr} {v : V} {es : List (Addr × List V × List PyData)} {st : PSt} (Z : StH H H' O v es st) (hn : H' n = none) (h2 : st.2 = none) :
    StH H (upd (upd H' n (.lst [])) O (.lst ((es.reverse.map fun e => V.ref e.1) ++ [.ref n]))) O v ((n, [], []) :: es) ([] :: st.1, none) := by
  have nO : n ≠ O := fun z => by rw [z, Z.open_] at hn; cases hn
  have hnH : H n = none := Z.same.free hn
  refine ⟨fun b o e => ?_, Z.newO, ?_, by rw [List.map_cons, Z.stk], fun e he => ?_, ?_, fun _ => Z.none_ h2, fun d z => absurd z (by simp)⟩
  · rw [upd_ne (fun y => by rw [y, Z.newO] at e; cases e), upd_ne (fun y => by rw [y, hnH] at e; cases e)]
    exact Z.same _ _ e
  · rw [upd_same, List.reverse_cons, List.map_append]; rfl
  · rcases List.mem_cons.mp he with rfl | he
    · exact ⟨hnH, nO, by rw [upd_ne nO, upd_same], .nil, rfl⟩
    · obtain ⟨a, b, c, d, f⟩ := Z.each e he
      have ne : e.1 ≠ n := fun y => by rw [y, hn] at c; cases c
      refine ⟨a, b, by rw [upd_ne b, upd_ne ne]; exact c, d.keepT (fun x xs q => ?_) _ _ f, f⟩
      rw [upd_ne (fun y => by rw [y, Z.open_] at q; cases q), upd_ne (fun y => by rw [y, hn] at q; cases q)]
      exact q
  · refine List.nodup_cons.mpr ⟨fun hm => ?_, Z.nodup⟩
    obtain ⟨e, he, y⟩ := List.mem_map.mp hm
    obtain ⟨_, _, c, _⟩ := Z.each e he
    rw [y, hn] at c; cases c
/-- something is put behind the top list's items -/
theorem StH.put {H H' : Hp} {O a : Addr} {xs : List V} {ds : List PyData} {v x : V} {d : PyData} {es : List (Addr × List V × List PyData)} {rest : List (List PyData)} {f : Option PyData} (Z : StH H H' O v ((a, xs, ds) :: es) (ds :: rest, f)) (hd : TD H' x d) (hn : noL d = true) :
    StH H (upd H' a (.lst (xs ++ [x]))) O v ((a, xs ++ [x], ds ++ [d]) :: es) ((ds ++ [d]) :: rest, f) := by
  obtain ⟨a1, a2, a3, a4, a5⟩ := Z.each _ List.mem_cons_self
  have kt : ∀ b ys, H' b = some (.tup ys) → upd H' a (.lst (xs ++ [x])) b = some (.tup ys) := fun b ys q => by
    rw [upd_ne (fun y => by rw [y, a3] at q; cases q)]; exact q
  have nd := List.nodup_cons.mp Z.nodup
  have stk := Z.stk
  refine ⟨fun b o e => ?_, Z.newO, ?_, ?_, fun e he => ?_, Z.nodup, Z.none_, fun d2 z => ?_⟩
  · rw [upd_ne (fun y => by rw [y, a1] at e; cases e)]; exact Z.same _ _ e
  · rw [upd_ne (Ne.symm a2), Z.open_]; simp
  · rw [List.map_cons] at stk ⊢
    rw [(List.cons.inj stk).2]
  · rcases List.mem_cons.mp he with rfl | he
    · refine ⟨a1, a2, upd_same, ?_, by rw [noLs_append, a5]; simp [noLs, hn]⟩
      have r1 := a4.keepT kt _ _ a5
      have r2 := hd.keepT kt _ _ hn
      exact tds_append r1 (.cons r2 .nil)
    · obtain ⟨c1, c2, c3, c4, c5⟩ := Z.each e (List.mem_cons_of_mem _ he)
      have ne : e.1 ≠ a := fun y => nd.1 (y ▸ List.mem_map.mpr ⟨e, he, rfl⟩)
      exact ⟨c1, c2, by rw [upd_ne ne]; exact c3, c4.keepT kt _ _ c5, c5⟩
  · obtain ⟨t, n, ds2⟩ := Z.some_ d2 z
    exact ⟨t.keepT kt _ _ n, n, ds2⟩
/-- the top list is taken away -/
theorem StH.pop {H H' : Hp} {O a : Addr} {xs : List V} {ds : List PyData} {v : V} {es : List (Addr × List V × List PyData)} {rest : List (List PyData)} (Z : StH H H' O v ((a, xs, ds) :: es) (ds :: rest, none)) :
    StH H (upd H' O (.lst (es.reverse.map fun e => V.ref e.1))) O v es (rest, none) := by
  have kt : ∀ b ys, H' b = some (.tup ys) → upd H' O (.lst (es.reverse.map fun e => V.ref e.1)) b = some (.tup ys) := fun b ys q => by
    rw [upd_ne (fun y => by rw [y, Z.open_] at q; cases q)]; exact q
  have stk := Z.stk
  refine ⟨fun b o e => ?_, Z.newO, upd_same, ?_, fun e he => ?_, (List.nodup_cons.mp Z.nodup).2, Z.none_, fun d z => absurd z (by simp)⟩
  · rw [upd_ne (fun y => by rw [y, Z.newO] at e; cases e)]; exact Z.same _ _ e
  · rw [List.map_cons] at stk
    exact (List.cons.inj stk).2
  · obtain ⟨c1, c2, c3, c4, c5⟩ := Z.each e (List.mem_cons_of_mem _ he)
    exact ⟨c1, c2, by rw [upd_ne c2]; exact c3, c4.keepT kt _ _ c5, c5⟩
theorem partIn_noL {w : Str} {d : PyData} (h : partIn w = some d) : noL d = true := by
  unfold partIn at h
  split at h
  · cases h; rfl
  · split at h
    · cases h; rfl
    · split at h
      · cases h; rfl
      · split at h
        · cases h; rfl
        · cases h
theorem partIn_kind {w : Str} {d : PyData} (h : partIn w = some d) : d = .none ∨ (∃ n, d = .int n) ∨ ∃ z, d = .str z ∧ signWord z = true := by
  unfold partIn at h
  split at h
  · cases h; exact .inl rfl
  · split at h
    · cases h; exact .inr (.inr ⟨_, rfl, rfl⟩)
    · split at h
      · cases h; exact .inr (.inl ⟨_, rfl⟩)
      · split at h
        · rename_i y
          cases h; exact .inr (.inr ⟨_, rfl, y⟩)
        · cases h
theorem sign_small {c : Nat} (h : signOk c = true) : c < 123 := by
  have a1 : ∀ x ∈ smallS.cps.toList, x < 123 := by decide +kernel
  have a2 : ∀ x ∈ figsS.cps.toList, x < 123 := by decide +kernel
  unfold signOk at h
  rw [Bool.or_eq_true, Bool.or_eq_true] at h
  rcases h with h | h | h
  · exact a1 _ (of_decide_eq_true h)
  · exact a2 _ (of_decide_eq_true h)
  · have z2 : [c] = [46] := congrArg (fun s : Str => s.cps.toList) (of_decide_eq_true h)
    have := (List.cons.inj z2).1; omega
theorem signs_of {z : Str} (h : signWord z = true) : ∀ c ∈ z.cps.toList, signOk c = true := by
  unfold signWord at h
  rw [Bool.or_eq_true, Bool.and_eq_true] at h
  rcases h with h | ⟨_, h⟩
  · have := of_decide_eq_true h
    subst this
    intro c hc
    exact absurd hc (List.not_mem_nil (a := c))
  · exact fun c hc => List.all_eq_true.mp h c hc
theorem strOk_sign {z : Str} (h : signWord z = true) : PyData.strOk z = true := by
  unfold PyData.strOk
  rw [← Array.all_toList, List.all_eq_true]
  intro c hc
  have := sign_small (signs_of h c hc)
  exact decide_eq_true (by omega)
theorem shaped_part {w : Str} {d : PyData} (h : partIn w = some d) : SeqAt.shaped (.tuple [d]) = true := by
  rcases partIn_kind h with rfl | ⟨n, rfl⟩ | ⟨z, rfl, hz⟩
  · rfl
  · rfl
  · simp only [SeqAt.shaped, PyData.canLay0, PyData.canLayAll0, PyData.depth, PyData.depthAll, strOk_sign hz]
    simp
theorem rev_refs (a : Addr) (x : List V × List PyData) (es : List (Addr × List V × List PyData)) : (((a, x) :: es).reverse.map fun e => V.ref e.1) = (es.reverse.map fun e => V.ref e.1) ++ [.ref a] := by
  rw [List.reverse_cons, List.map_append]; rfl
/-- the tuple that was found -/
theorem StH.done {H H' : Hp} {O l : Addr} {v : V} {ds : List PyData} (Z : StH H H' O v [] ([], none)) (t : TD H' (.ref l) (.tuple ds)) (n : noLs ds = true) : StH H H' O (.ref l) [] ([], some (.tuple ds)) :=
  { Z with none_ := (fun z => by cases z), some_ := (fun d z => by cases z; exact ⟨t, n, ds, rfl⟩) }
/-- tuple_in(words) -/
def spTI (K : PySem.W.Frag) : Sp := fun vs H Q _ => ∃ (p : Addr) (ws : List Str), vs = [.ref p] ∧ SqL K H p (ws.map V.str) ∧ ws.length < 2 ^ 20 ∧ (∀ x ∈ ws, x.length < 2 ^ 20) ∧
  ∀ v H', Same H H' → (parse ws = none → v = .non) → (∀ d, parse ws = some d → TD H' v d ∧ noL d = true ∧ ∃ ds, d = .tuple ds) → Q v H'
section
variable {P : Program} {w : World} {K : PySem.W.Frag} {mg : Str → Option Value} {base : Heap} {A : Nat → Addr} {D : Nat → FuncData}
theorem ok_ti (T : Txt P K mg A D) : FnG P w K mg base CX0 3 (A 10) (D 10) ["words"] (spTI K) := by
  have G_part_in := ok_pi (P := P) (w := w) (base := base) T
  refine def_ok0 T.F_tuple_in sc_tuple_in (fun vs H Q E h => ?_) (fun cdv Ar outer s H vs Q E hr hG h => ?_)
  · obtain ⟨a, _, rfl, _⟩ := h; rfl
  · obtain ⟨p, ws, rfl, hS, hn, hw, q⟩ := h
    refine ⟨_, (pss_cons (ps_par (i := 1) (j := 2) (by rfl) sc_tuple_in.nd rfl rfl (by decide) rfl rfl (pa_cons (pe_lst pa_nil) (pa_cons pe_non pa_nil)) (by rfl))
      (pss_cons (ps_for (by first | exact PassesOwn.never | exact PassesOwn.leaving | exact L2.passes_of rfl) rfl (pi_list (pv 0)) (pg_name (i := 3) sc_tuple_in.nd rfl (Or.inl rfl)) (pss_cons (ps_if (pt_cut (PW.pt (pw_or (pt_cmpR op_notN (pv 2) pe_non (nomark _)) (pw_or1 (PW.pt (pw_and (pt_cmpR (op_eqNil hr.units) (pv 1) (pe_lst pa_nil) (nomark _)) (pw_and1 (pt_cmpR op_ne (pv 3) (pe_gl T.c_OPENING) (nomark _))))))))) (pss_one (ps_ret pe_non)) pss_nil)
      (pss_one (ps_if (pt_cmpR op_eq (pv 3) (pe_gl T.c_OPENING) (nomark _)) (pss_one (ps_expr (pe_bm PySem.F.plainAttrs_list PySem.F.slot_list_append PySem.F.type_list_append mt_append (pv 1) (pa_cons (pe_lst pa_nil) pa_nil)))) (pss_one (ps_if (pt_cmpR op_eq (pv 3) (pe_gl T.c_CLOSING) (nomark _)) (pss_cons (ps_set (i := 4) sc_tuple_in.nd rfl (Or.inl rfl) (pe_callTy call_tuple_of (by rfl) T.n_tuple (by decide +kernel) (pa_cons (pe_bm0 PySem.F.plainAttrs_list PySem.F.slot_list_pop PySem.F.type_list_pop mt_pop (pv 1)) pa_nil)))
      (pss_one (ps_if (pt_cmpR (op_eqNil hr.units) (pv 1) (pe_lst pa_nil) (nomark _)) (pss_one (ps_set (i := 2) sc_tuple_in.nd rfl (Or.inl rfl) (pv 4))) (pss_one (ps_expr (pe_bm PySem.F.plainAttrs_list PySem.F.slot_list_append PySem.F.type_list_append mt_append (pe_ix ix_list (pv 1) (pe_un un_neg pe_int) (fun _ _ => rfl)) (pa_cons (pv 4) pa_nil))))))) (pss_one (ps_if (pt_cmpR (op_eqD hr.units) (pe_cg G_part_in (hr.mono (by first | decide | omega)) hG (by rfl) T.g_part_in T.F_part_in.kp T.b_part_in pass0 (pa_cons (pv 3) pa_nil)) (pe_tup pa_nil) (nomark _)) (pss_one (ps_ret pe_non)) (pss_one (ps_expr (pe_bm PySem.F.plainAttrs_list PySem.F.slot_list_append PySem.F.type_list_append mt_append (pe_ix ix_list (pv 1) (pe_un un_neg pe_int) (fun _ _ => rfl)) (pa_cons (pe_ix ix_tup (pe_cg G_part_in (hr.mono (by first | decide | omega)) hG (by rfl) T.g_part_in T.F_part_in.kp T.b_part_in pass0 (pa_cons (pv 3) pa_nil)) pe_int (fun _ _ => rfl)) pa_nil))))))))))))
      (pss_one (ps_ret (pv 2))))), ?_⟩
    refine ⟨(by show 0 ≤ sizeLine; decide), fun O hO => ⟨_, _, rfl, ?_⟩⟩
    refine ⟨_, rfl, p, rfl, ⟨_, (same_upd hO).seq hS⟩, for_list (K := K) (a := p) (xs := ws.map V.str) (fun i σ H' => ∃ (v : V) (es : List (Addr × List V × List PyData)) (st : PSt) (i1 i2 : Option V),
      σ = [some (.ref p), some (.ref O), some v, i1, i2] ∧ run ([], none) (ws.take i) = some st ∧ es.length ≤ i ∧ (∀ e ∈ es, e.2.1.length ≤ i) ∧ StH H H' O v es st)
      ⟨.non, [], ([], none), none, none, rfl, rfl, by simp, by simp, ⟨same_upd hO, hO, upd_same, rfl, (fun e he => absurd he (by simp)), List.nodup_nil, fun _ => rfl, (fun d z => absurd z (by simp))⟩⟩ (fun i σ H' _ ⟨_, _, _, _, _, _, _, _, _, z⟩ => z.same.seq hS) ?_ ?_⟩
    · rintro i x σ H' hx ⟨v, es, st, i1, i2, rfl, hrun, el, ell, Z⟩
      obtain ⟨wd, hwd, rfl⟩ : ∃ y, ws[i]? = some y ∧ x = V.str y := by
        rw [List.getElem?_map] at hx
        cases e : ws[i]? with
        | none => rw [e] at hx; cases hx
        | some z => rw [e] at hx; exact ⟨z, rfl, (Option.some.inj hx).symm⟩
      have hin : i < ws.length := (List.getElem?_eq_some_iff.mp hwd).1
      have hwl := hw wd (List.mem_of_getElem? hwd)
      have next : run ([], none) (ws.take (i + 1)) = step st wd := by
        rw [take_step hwd, run_split, hrun]
        show (step st wd).bind _ = _
        cases step st wd <;> rfl
      have bad : step st wd = none → parse ws = none := fun z => by
        have e : ws = ws.take (i + 1) ++ ws.drop (i + 1) := (List.take_append_drop _ _).symm
        unfold parse
        rw [e, run_split, next, z]; rfl
      refine ⟨fun b H2 => StH H H2 O v es st ∧ (b = true → step st wd = none) ∧ (b = false → st.2 = none ∧ (es ≠ [] ∨ wd = "(")), ?_, ?_⟩
      · refine ⟨_, rfl, rfl, _, rfl, ite2 (fun e => ?_) (fun e => ?_)⟩
        · refine ⟨Z, fun _ => ?_, fun z => Bool.noConfusion z⟩
          have nv : v ≠ .non := by simpa using e
          have n2 : st.2 ≠ none := fun z => nv (Z.non_iff.mpr z)
          unfold step
          cases h : st.2 with
          | none => exact absurd h n2
          | some d => rfl
        · have ev : v = .non := by simpa using e
          have s2 := Z.non_iff.mp ev
          refine ⟨_, rfl, (by show 0 ≤ sizeLine; decide), fun e1 he1 => ?_⟩
          have sm := same_upd (o := .lst []) he1
          have hE : (upd H' e1 (.lst [])) e1 = some (.lst []) := upd_same
          generalize upd H' e1 (.lst []) = H2 at sm hE ⊢
          have Z2 := Z.keep sm
          refine ⟨O, e1, _, rfl, rfl, SqL.of Z2.open_, SqL.of hE, _, rfl, ite2 (fun e2 => ?_) (fun e2 => ?_)⟩
          · have ee : es = [] := by
              cases es with
              | nil => rfl
              | cons a b => simp at e2
            have s1 : st.1 = [] := by rw [← Z.stk, ee]; rfl
            refine ⟨_, rfl, rfl, _, rfl, Z2, fun hb => ?_, fun hb => ⟨s2, .inr ?_⟩⟩
            · have hw : wd ≠ "(" := fun y => by rw [y] at hb; simp at hb
              unfold step
              rw [s2, s1]
              exact if_neg hw
            · have hb2 : decide (V.str wd = V.str "(") = true := by simpa using hb
              exact V.str.inj (of_decide_eq_true hb2)
          · exact ⟨Z2, fun hb => Bool.noConfusion hb, fun _ => ⟨s2, .inl fun y => e2 (by rw [y]; rfl)⟩⟩
      · rintro b H2 ⟨Z2, hb1, hb2⟩
        refine ite2 (fun e => ?_) (fun e => ?_)
        · have hb := bad (hb1 e)
          exact q .non H2 Z2.same (fun _ => rfl) fun d z => by rw [hb] at z; cases z
        · obtain ⟨s2, hor⟩ := hb2 (Bool.eq_false_iff.mpr e)
          have ev : v = .non := Z2.none_ s2
          subst ev
          refine ⟨_, rfl, rfl, _, rfl, ite2 (fun e2 => ?_) (fun e2 => ?_)⟩
          · have ew : wd = "(" := V.str.inj (of_decide_eq_true e2)
            have st1 : step st wd = some ([] :: st.1, none) := by
              unfold step
              rw [s2, ew]
              cases st.1 <;> rfl
            refine ⟨_, rfl, .inl ⟨rfl, _, SqL.of Z2.open_⟩, (by show 0 ≤ sizeLine; decide), fun n hn => ⟨O, es.reverse.map (fun e => V.ref e.1), .ref n, rfl, rfl, (same_upd hn) _ _ Z2.open_, ?_, ?_⟩⟩
            · rw [List.length_map, List.length_reverse]; exact small20' (by omega)
            · exact ⟨.non, (n, [], []) :: es, _, _, _, rfl, by rw [next, st1], by rw [List.length_cons]; omega, fun e he => by
                rcases List.mem_cons.mp he with rfl | he
                · exact Nat.zero_le _
                · have := ell e he; omega, Z2.push hn s2⟩
          · have nw : wd ≠ "(" := fun y => e2 (decide_eq_true (by rw [y]))
            have ne := hor.resolve_right nw
            obtain ⟨⟨a, xs, ds⟩, es2, rfl⟩ : ∃ x y, es = x :: y := by
              cases es with
              | nil => exact absurd rfl ne
              | cons x y => exact ⟨x, y, rfl⟩
            have stk := Z2.stk
            rw [List.map_cons] at stk
            obtain ⟨stl, f⟩ := st
            dsimp only at s2 stk
            subst s2 stk
            obtain ⟨a1, a2, a3, a4, a5⟩ := Z2.each _ List.mem_cons_self
            refine ⟨_, rfl, rfl, _, rfl, ite2 (fun e3 => ?_) (fun e3 => ?_)⟩
            · have ew : wd = ")" := V.str.inj (of_decide_eq_true e3)
              have o2 := Z2.open_
              rw [rev_refs] at o2
              refine ⟨_, rfl, .inl ⟨rfl, _, SqL.of o2⟩, O, _, .ref a, rfl, rfl, o2, by simp, a, xs, rfl, .inl ⟨SqL.of (by rw [upd_ne a2]; exact a3), fun l hl => ?_⟩⟩
              rw [List.dropLast_concat] at hl ⊢
              have Z3 := Z2.pop
              have kt3 : ∀ b ys, H2 b = some (.tup ys) → upd H2 O (.lst (es2.reverse.map fun e => V.ref e.1)) b = some (.tup ys) := fun b ys z => by
                rw [upd_ne (fun y => by rw [y, o2] at z; cases z)]; exact z
              have t3 := a4.keepT kt3 _ _ a5
              generalize upd H2 O (.lst (es2.reverse.map fun e => V.ref e.1)) = H3 at hl Z3 t3 ⊢
              have sm4 := same_upd (o := .tup xs) hl
              have hl4 : (upd H3 l (.tup xs)) l = some (.tup xs) := upd_same
              generalize upd H3 l (.tup xs) = H4 at sm4 hl4 ⊢
              have Z4 := Z3.keep sm4
              have tl : TD H4 (.ref l) (.tuple ds) := .tup hl4 (t3.same sm4)
              refine ⟨_, rfl, (by show 0 ≤ sizeLine; decide), fun e3 he3 => ?_⟩
              have sm5 := same_upd (o := .lst []) he3
              have hE5 : (upd H4 e3 (.lst [])) e3 = some (.lst []) := upd_same
              generalize upd H4 e3 (.lst []) = H5 at sm5 hE5 ⊢
              have Z5 := Z4.keep sm5
              have tl5 := tl.same sm5
              refine ⟨O, e3, _, rfl, rfl, SqL.of Z5.open_, SqL.of hE5, _, rfl, ite2 (fun e4 => ?_) (fun e4 => ?_)⟩
              · have ee : es2 = [] := by
                  cases es2 with
                  | nil => rfl
                  | cons x y => simp at e4
                subst ee
                have st1 : step (ds :: [], none) wd = some ([], some (.tuple ds)) := by unfold step; rw [ew]; rfl
                exact ⟨_, rfl, .ref l, [], _, _, _, rfl, by rw [next]; exact st1, by simp, fun e he => absurd he (by simp), Z5.done tl5 a5⟩
              · obtain ⟨⟨b, ys, fs⟩, es3, rfl⟩ : ∃ x y, es2 = x :: y := by
                  cases es2 with
                  | nil => exact absurd rfl e4
                  | cons x y => exact ⟨x, y, rfl⟩
                obtain ⟨b1, b2, b3, b4, b5⟩ := Z5.each _ List.mem_cons_self
                have o5 := Z5.open_
                rw [rev_refs] at o5
                have st1 : step (ds :: (((b, ys, fs) :: es3).map (·.2.2)), none) wd = some ((fs ++ [.tuple ds]) :: es3.map (·.2.2), none) := by unfold step; rw [ew]; rfl
                have lb : ys.length < 2 ^ 20 := by have := ell (b, ys, fs) (by simp); dsimp only at this; omega
                refine ⟨_, rfl, 1, rfl, O, _, -1, .ref b, rfl, rfl, SqL.of o5, atI_last _ _, .inl ⟨rfl, _, SqL.of b3⟩, _, rfl, b, ys, .ref l, rfl, rfl, b3, small20' lb, ?_⟩
                refine ⟨.non, (b, ys ++ [.ref l], fs ++ [.tuple ds]) :: es3, _, _, _, rfl, by rw [next]; exact st1, by simp at el ⊢; omega, fun e he => ?_, Z5.put tl5 a5⟩
                rcases List.mem_cons.mp he with rfl | he
                · have := ell (b, ys, fs) (by simp)
                  dsimp only at this ⊢
                  rw [List.length_append, List.length_singleton]; omega
                · have := ell e (by simp [he]); omega
            · have nw2 : wd ≠ ")" := fun y => e3 (decide_eq_true (by rw [y]))
              have lx : xs.length < 2 ^ 20 := by have := ell (a, xs, ds) (by simp); dsimp only at this; omega
              refine ⟨_, rfl, wd, rfl, hwl, fun p1 xs1 H3 sm3 np1 hp1 t1 => ⟨(by show 0 ≤ sizeLine; decide), fun p2 hp2 => ?_⟩⟩
              have sm4 := same_upd (o := .tup []) hp2
              have hE4 : (upd H3 p2 (.tup [])) p2 = some (.tup []) := upd_same
              generalize upd H3 p2 (.tup []) = H4 at sm4 hE4 ⊢
              have Z4 := (Z2.keep sm3).keep sm4
              have d1 : Dp K H4 (.ref p1) (.tuple (partL wd)) := .tup (SqT.of (sm4 _ _ hp1)) (TDs.dp _ _ (t1.same sm4))
              have d2 : Dp K H4 (.ref p2) (.tuple []) := .tup (SqT.of hE4) .nil
              cases hpi : partIn wd with
              | none =>
                have pl : partL wd = [] := by unfold partL; rw [hpi]
                rw [pl] at d1
                refine ⟨_, _, d1, d2, rfl, rfl, _, rfl, ?_⟩
                have hb := bad (by unfold step; dsimp only; rw [if_neg nw, if_neg nw2, hpi])
                exact q .non H4 Z4.same (fun _ => rfl) fun d z => by rw [hb] at z; cases z
              | some d =>
                have pl : partL wd = [d] := by unfold partL; rw [hpi]
                rw [pl] at d1
                refine ⟨_, _, d1, d2, (shaped_part hpi), rfl, _, rfl, ?_⟩
                have o4 := Z4.open_
                rw [rev_refs] at o4
                obtain ⟨_, _, a3', _⟩ := Z4.each _ List.mem_cons_self
                refine ⟨_, rfl, 1, rfl, O, _, -1, .ref a, rfl, rfl, SqL.of o4, atI_last _ _, .inl ⟨rfl, _, SqL.of a3'⟩, _, rfl, wd, rfl, hwl, fun p3 xs3 H5 sm5 np3 hp3 t5 => ?_⟩
                rw [pl] at t5
                cases t5 with
                | @cons x xr _ _ tx tr =>
                  cases tr
                  have Z5 := Z4.keep sm5
                  refine ⟨p3, [x], 0, x, rfl, rfl, SqT.of hp3, atI_nat (j := 0) rfl, a, xs, x, rfl, rfl, sm5 _ _ a3', small20' lx, ?_⟩
                  have st1 : step (ds :: es2.map (·.2.2), none) wd = some ((ds ++ [d]) :: es2.map (·.2.2), none) := by unfold step; dsimp only; rw [if_neg nw, if_neg nw2, hpi]
                  refine ⟨.non, (a, xs ++ [x], ds ++ [d]) :: es2, _, _, _, rfl, by rw [next]; exact st1, by simp at el ⊢; omega, fun e he => ?_, Z5.put tx (partIn_noL hpi)⟩
                  rcases List.mem_cons.mp he with rfl | he
                  · have := ell (a, xs, ds) (by simp)
                    dsimp only at this ⊢
                    rw [List.length_append, List.length_singleton]; omega
                  · have := ell e (by simp [he]); omega
    · rintro σ H' ⟨v, es, st, i1, i2, rfl, hrun, el, ell, Z⟩
      rw [List.length_map, List.take_length] at hrun
      have pe : parse ws = st.2 := by unfold parse; rw [hrun]; rfl
      exact ⟨_, rfl, q v H' Z.same (fun z => Z.none_ (by rw [← pe]; exact z)) fun d z => Z.some_ d (by rw [← pe]; exact z)⟩
end
end My

namespace My
open PySem PySem.Spec PyProof.Rows L2
/-! ### how long the text of a read paper is -/
def tw (d : PyData) : Nat := (textOf d).length + 1
def tws (ds : List PyData) : Nat := (ds.map tw).sum
theorem brk_tw (ds : List PyData) : (brk (ds.map textOf)).length ≤ tws ds + 2 := by
  rw [brk_len]
  by_cases h : ds.map textOf = []
  · have : ds = [] := List.map_eq_nil_iff.mp h
    subst this
    show (Txt.join " " []).length + 2 ≤ _
    rw [TL.join_eq]; simp [Str.join, PySem.Str.empty, PySem.Str.length]
  · have := join_len _ h
    have e : (((ds.map textOf).map (·.length)).sum + (ds.map textOf).length) = tws ds := by
      unfold tws
      clear this h
      induction ds with
      | nil => rfl
      | cons d r ih =>
        simp only [List.map_cons, List.sum_cons, List.length_cons] at ih ⊢
        unfold tw at ih ⊢
        omega
    omega
theorem tw_tuple (ds : List PyData) : tw (.tuple ds) ≤ tws ds + 3 := by
  have := brk_tw ds
  unfold tw
  rw [textOf, textsOf_map]; omega
theorem tws_brk (ds : List PyData) : tws ds + 1 ≤ (brk (ds.map textOf)).length := by
  rw [brk_len]
  by_cases h : ds.map textOf = []
  · have : ds = [] := List.map_eq_nil_iff.mp h
    subst this
    simp [tws]
  · have := join_len _ h
    have e : (((ds.map textOf).map (·.length)).sum + (ds.map textOf).length) = tws ds := by
      unfold tws
      clear this h
      induction ds with
      | nil => rfl
      | cons d r ih =>
        simp only [List.map_cons, List.sum_cons, List.length_cons] at ih ⊢
        unfold tw at ih ⊢
        omega
    omega
mutual
theorem sz_tw : ∀ d : PyData, noL d = true → sz d ≤ tw d
  | .tuple ds, h => by
    have h1 := szs_tw ds h
    have h2 := tws_brk ds
    show 1 + szs ds ≤ (textOf (.tuple ds)).length + 1
    rw [textOf, textsOf_map]; omega
  | .none, _ => by show 1 ≤ _ + 1; omega
  | .bool _, _ => by show 1 ≤ _ + 1; omega
  | .int _, _ => by show 1 ≤ _ + 1; omega
  | .str _, _ => by show 1 ≤ _ + 1; omega
  | .list _, h => by cases h
  | .dict _, h => by cases h
theorem szs_tw : ∀ ds : List PyData, noLs ds = true → szs ds ≤ tws ds
  | [], _ => Nat.le_refl _
  | d :: ds, h => by
    have h2 := Bool.and_eq_true_iff.mp h
    have a := sz_tw d h2.1
    have b := szs_tw ds h2.2
    show sz d + szs ds ≤ ((d :: ds).map tw).sum
    rw [List.map_cons, List.sum_cons]
    unfold tws at b
    omega
end
def stW (st : List (List PyData)) : Nat := (st.map fun l => tws l + 2).sum
def optW : Option PyData → Nat
  | none => 0
  | some d => tw d
def stk : PSt → Nat := fun st => stW st.1 + optW st.2
theorem tws_append (a b : List PyData) : tws (a ++ b) = tws a + tws b := by unfold tws; rw [List.map_append, List.sum_append]
theorem partIn_text {w : Str} {d : PyData} (h : partIn w = some d) (hne : w ≠ "") : textOf d = w := by
  unfold partIn at h
  split at h
  · rename_i e; cases h; exact e.symm
  · split at h
    · rename_i e; cases h; exact e.symm
    · rename_i n1 n2
      split at h
      · rename_i n hr
        cases h
        unfold readInt at hr
        split at hr
        · split at hr
          · split at hr
            · rename_i e; cases hr; exact e
            · cases hr
          · cases hr
        · cases hr
      · rename_i hr
        split at h
        · cases h
          show (if w = "" then ("-" : Str) else w) = w
          rw [if_neg hne]
        · cases h
theorem step_w {st st2 : PSt} {w : Str} (h : step st w = some st2) (hw : 1 ≤ w.length) : stk st2 ≤ stk st + (w.length + 1) := by
  obtain ⟨l, f⟩ := st
  unfold step at h
  dsimp only at h
  split at h
  · cases h
  · split at h
    · cases h
      show stW [[]] + 0 ≤ _
      unfold stk stW tws
      simp; omega
    · cases h
  · rename_i top rest
    split at h
    · cases h
      unfold stk stW tws
      simp [optW]; omega
    · split at h
      · split at h
        · cases h
          have := tw_tuple top
          unfold stk stW optW
          simp; omega
        · cases h
          have := tw_tuple top
          unfold stk stW optW
          simp [tws_append]
          unfold tws at this ⊢
          simp; omega
      · split at h
        · cases h
        · rename_i d hd
          cases h
          have e := partIn_text hd (fun y => by rw [y] at hw; exact absurd hw (by decide))
          unfold stk stW optW
          simp [tws_append]
          unfold tws tw
          simp [e]; omega
theorem run_w : ∀ {ws : List Str} {st st2 : PSt}, run st ws = some st2 → (∀ w ∈ ws, 1 ≤ w.length) → stk st2 ≤ stk st + (ws.map fun w => w.length + 1).sum
  | [], st, st2, h, _ => by cases h; simp
  | w :: ws, st, st2, h, hw => by
    have h' : (step st w).bind (fun s => run s ws) = some st2 := h
    cases hs : step st w with
    | none => rw [hs] at h'; cases h'
    | some s1 =>
      rw [hs] at h'
      have a := step_w hs (hw w List.mem_cons_self)
      have b := run_w (ws := ws) h' fun x hx => hw x (List.mem_cons_of_mem _ hx)
      simp only [List.map_cons, List.sum_cons]; omega
/-! ### the words' lengths -/
theorem toks_len : ∀ (n : Nat) (l : List Nat), l.length ≤ n → ((toks l).map fun w => w.length + 1).sum ≤ 2 * l.length ∧ (toks l).length ≤ l.length ∧ ∀ w ∈ toks l, 1 ≤ w.length ∧ w.length ≤ l.length
  | _, [], _ => by rw [toks]; simp
  | 0, c :: r, h => by simp at h
  | n + 1, c :: r, h => by
    rw [toks]
    have hr : r.length ≤ n := by simpa using h
    split
    · obtain ⟨a, b, d⟩ := toks_len n r hr
      exact ⟨by simp; omega, by simp; omega, fun w hw => by have := d w hw; simp; omega⟩
    · split
      · obtain ⟨a, b, d⟩ := toks_len n r hr
        refine ⟨by simp; omega, by simp; omega, fun w hw => ?_⟩
        rcases List.mem_cons.mp hw with rfl | hw
        · simp
        · have := d w hw; simp; omega
      · have ht : (r.takeWhile plain).length + (r.dropWhile plain).length = r.length := by
          rw [← List.length_append, List.takeWhile_append_dropWhile]
        obtain ⟨a, b, d⟩ := toks_len n (r.dropWhile plain) (by omega)
        refine ⟨by simp; omega, by simp; omega, fun w hw => ?_⟩
        rcases List.mem_cons.mp hw with rfl | hw
        · simp; omega
        · have := d w hw; simp; omega
def wordsOf (s : Str) : List Str := (toks s.cps.toList).map ofL
theorem ofL_len (l : List Nat) : (ofL l).length = l.length := by unfold ofL; simp [PySem.Str.length]
theorem words_len (s : Str) : ((wordsOf s).map fun w => w.length + 1).sum ≤ 2 * s.length ∧ (wordsOf s).length ≤ s.length ∧ ∀ w ∈ wordsOf s, 1 ≤ w.length ∧ w.length ≤ s.length := by
  have es : s.cps.toList.length = s.length := Array.length_toList
  obtain ⟨a, b, d⟩ := toks_len _ s.cps.toList (Nat.le_refl _)
  rw [es] at a b d
  refine ⟨?_, by unfold wordsOf; rw [List.length_map]; exact b, fun w hw => ?_⟩
  · unfold wordsOf
    rw [List.map_map, show ((fun w : Str => w.length + 1) ∘ ofL) = fun l => l.length + 1 from funext fun l => by simp [ofL_len]]
    exact a
  · obtain ⟨l, hl, rfl⟩ := List.mem_map.mp hw
    rw [ofL_len]; exact d l hl
theorem parse_len {s : Str} {d : PyData} (h : parse (wordsOf s) = some d) (n : noL d = true) : (textOf d).length + 1 ≤ 2 * s.length ∧ sz d ≤ 2 * s.length := by
  obtain ⟨a, _, b⟩ := words_len s
  unfold parse at h
  cases hr : run ([], none) (wordsOf s) with
  | none => rw [hr] at h; cases h
  | some st =>
    rw [hr] at h
    have h2 : st.2 = some d := h
    have := run_w hr fun w hw => (b w hw).1
    have e : stk ([], none) = 0 := rfl
    have e2 : stk st = stW st.1 + tw d := by unfold stk; rw [h2]; rfl
    have e3 := sz_tw d n
    unfold tw at e2 e3
    omega
/-- read_paper -/
def readP (s : Str) : Option PyData := match parse (wordsOf s) with
  | some d => if nest 12 d = true ∧ textOf d = s then some d else none
  | none => none
def spPaper (C : Addr) : Sp := fun vs H Q E => ∃ v d, vs = [v] ∧ ItD H v d ∧ sz d < 2 ^ 20 ∧ (nest 12 d = true → (textOf d).length < 2 ^ 20 ∧ ∀ H', Same H H' → Q (.str (textOf d)) H') ∧
  (nest 12 d = false → ∀ dd H', Same H H' → H' dd = none → E (.ref C) (some dd) (upd H' dd (.xd [("value", v)])))
def spRead (C : Addr) : Sp := fun vs H Q E => ∃ v, vs = [v] ∧ Known H v ∧ (∀ s, v = .str s → s.length < 2 ^ 19 ∧ ∀ d, readP s = some d → ∀ u H', Same H H' → TD H' u d → noL d = true → Q u H') ∧
  ((∀ s, v = .str s → readP s = none) → ∀ dd H', Same H H' → H' dd = none → E (.ref C) (some dd) (upd H' dd (.xd [("value", v)])))
section
variable {P : Program} {w : World} {K : PySem.W.Frag} {mg : Str → Option Value} {base : Heap} {A : Nat → Addr} {D : Nat → FuncData}
theorem ok_paper (T : Txt P K mg A D) : FnG P w K mg base (L2.CX P w) 15 (A 7) (D 7) ["paper"] (spPaper (A 42)) := by
  have G_can_be_told := ok_told (P := P) (w := w) (base := base) T
  have G_text_of := ok_text (P := P) (w := w) (base := base) T 12
  refine def_ok T.F_paper_text sc_paper_text (fun vs H Q E h => ?_) (fun cdv Ar outer s H vs Q E hr hG h => ?_)
  · obtain ⟨a, d, rfl, _⟩ := h; rfl
  · obtain ⟨v, d, rfl, hv, hs, hy, hn⟩ := h
    refine ⟨_, (pss_cons (ps_if (pt_not (pt_val (pe_cg G_can_be_told (hr.mono (by first | decide | omega)) hG (by rfl) T.g_can_be_told T.F_can_be_told.kp T.b_can_be_told pass0 (pa_cons (pv 0) pa_nil)))) (pss_one (ps_raiseLab rfl T.base T.bad T.g_BadPaper hr (takes_of rfl rfl rfl rfl) (by exact (pa_cons (pv 0) pa_nil)))) pss_nil)
      (pss_one (ps_ret (pe_cg G_text_of (hr.mono (by first | decide | omega)) hG (by rfl) T.g_text_of T.F_text_of.kp T.b_text_of pass0 (pa_cons (pv 0) pa_nil))))), ?_⟩
    refine ⟨_, rfl, v, d, rfl, hv, hs, fun H1 sm1 => ⟨_, rfl, ?_⟩⟩
    cases hd : nest 12 d with
    | false => exact ⟨_, rfl, v, rfl, fun dd hdd => hn hd dd H1 sm1 hdd⟩
    | true =>
      obtain ⟨l, q⟩ := hy hd
      have t : TD H v d := by
        rcases hv with hv | ⟨_, rfl⟩
        · exact hv
        · cases hd
      exact ⟨_, rfl, v, d, rfl, t.same sm1, hd, l, fun H2 sm2 => q H2 (sm1.trans sm2)⟩
end
end My

namespace My
open PySem PySem.Spec PyProof.Rows L2
theorem strV2 {H : Hp} {v : V} (k : Known H v) {K : PySem.W.Frag} : ∃ t, TyX K H v t ∧ PySem.W.kitOne K t (.type "str") = some (isStrV v) := k.kStr
section
variable {P : Program} {w : World} {K : PySem.W.Frag} {mg : Str → Option Value} {base : Heap} {A : Nat → Addr} {D : Nat → FuncData}
theorem ok_read (T : Txt P K mg A D) : FnG P w K mg base (L2.CX P w) 15 (A 11) (D 11) ["text"] (spRead (A 42)) := by
  have G_can_be_told := ok_told (P := P) (w := w) (base := base) T
  have G_text_of := ok_text (P := P) (w := w) (base := base) T 12
  have G_words_in := ok_wi (P := P) (w := w) (base := base) T
  have G_tuple_in := ok_ti (P := P) (w := w) (base := base) T
  refine def_ok T.F_read_paper sc_read_paper (fun vs H Q E h => ?_) (fun cdv Ar outer s H vs Q E hr hG h => ?_)
  · obtain ⟨a, rfl, _⟩ := h; rfl
  · obtain ⟨v, rfl, kn, hy, hn⟩ := h
    refine ⟨_, (pss_cons (ps_if (pt_not (pt_val (pe_callB call_isi (by rfl) T.n_isinstance (by decide +kernel) (pa_cons (pv 0) (pa_cons (pe_bltn (v := .ty "str") (by rfl) T.n_str (by decide +kernel) rfl) pa_nil))))) (pss_one (ps_raiseLab rfl T.base T.bad T.g_BadPaper hr (takes_of rfl rfl rfl rfl) (by exact (pa_cons (pv 0) pa_nil)))) pss_nil)
      (pss_cons (ps_set (i := 1) sc_read_paper.nd rfl (Or.inl rfl) (pe_cg G_tuple_in (hr.mono (by first | decide | omega)) hG (by rfl) T.g_tuple_in T.F_tuple_in.kp T.b_tuple_in pass0 (pa_cons (pe_cg G_words_in (hr.mono (by first | decide | omega)) hG (by rfl) T.g_words_in T.F_words_in.kp T.b_words_in pass0 (pa_cons (pv 0) pa_nil)) pa_nil)))
      (pss_cons (ps_if (pt_cut (PW.pt (pw_or (pt_cmpR op_isN (pv 1) pe_non (nomark _)) (pw_or (pt_not (pt_val (pe_cg G_can_be_told (hr.mono (by first | decide | omega)) hG (by rfl) T.g_can_be_told T.F_can_be_told.kp T.b_can_be_told pass0 (pa_cons (pv 1) pa_nil)))) (pw_or1 (pt_cmpR op_ne (pe_cg G_text_of (hr.mono (by first | decide | omega)) hG (by rfl) T.g_text_of T.F_text_of.kp T.b_text_of pass0 (pa_cons (pv 1) pa_nil)) (pv 0) (nomark _))))))) (pss_one (ps_raiseLab rfl T.base T.bad T.g_BadPaper hr (takes_of rfl rfl rfl rfl) (by exact (pa_cons (pv 0) pa_nil)))) pss_nil)
      (pss_one (ps_ret (pv 1)))))), ?_⟩
    obtain ⟨t, ty, e1⟩ := kn.kStr (K := K)
    refine ⟨_, rfl, _, .ty "str", t, _, _, rfl, .ty _, ty, e1, _, rfl, ?_⟩
    cases hv : isStrV v with
    | false => exact ⟨_, rfl, v, rfl, fun dd hdd => hn (fun s z => by rw [z] at hv; cases hv) dd H (Same.refl _) hdd⟩
    | true =>
      obtain ⟨z, rfl⟩ := strV hv
      obtain ⟨hl, hyes⟩ := hy z rfl
      obtain ⟨wl1, wl2, wl3⟩ := words_len z
      refine ⟨_, rfl, z, rfl, by omega, fun p H1 sm1 np hp => ?_⟩
      have hp2 : H1 p = some (.lst ((wordsOf z).map V.str)) := by rw [hp]; unfold wordsOf; rw [List.map_map]; rfl
      refine ⟨p, wordsOf z, rfl, SqL.of hp2, by omega, fun x hx => by have := wl3 x hx; omega, fun u H2 sm2 h0 h1 => ?_⟩
      have bad : (∀ d, parse (wordsOf z) = some d → ¬ (nest 12 d = true ∧ textOf d = z)) → readP z = none := fun h => by
        unfold readP
        cases hp : parse (wordsOf z) with
        | none => rfl
        | some d => exact if_neg (h d hp)
      refine ⟨fun b H3 => Same H2 H3 ∧ (b = true → readP z = none) ∧ (b = false → ∃ d, parse (wordsOf z) = some d ∧ readP z = some d), ?_, ?_⟩
      · cases hpa : parse (wordsOf z) with
        | none =>
          have eu := h0 hpa
          subst eu
          exact ⟨_, rfl, rfl, _, rfl, Same.refl _, (fun _ => bad fun d hd => absurd (hpa.symm.trans hd) (by simp)), fun z => Bool.noConfusion z⟩
        | some d =>
          obtain ⟨td, nl, ds, rfl⟩ := h1 d hpa
          have nu : u ≠ .non := fun y => by rw [y] at td; cases td
          obtain ⟨pl1, pl2⟩ := parse_len hpa nl
          refine ⟨_, rfl, rfl, _, rfl, ite2 (fun e => absurd (of_decide_eq_true e) nu) (fun e => ?_)⟩
          refine ⟨_, rfl, u, _, rfl, .inl td, by omega, fun H3 sm3 => ⟨_, rfl, ?_⟩⟩
          cases hd : nest 12 (.tuple ds) with
          | false =>
            exact ⟨sm3, (fun _ => bad fun d' hd' h => (by rw [hpa] at hd'; cases hd'; rw [hd] at h; exact Bool.noConfusion h.1)), fun z => Bool.noConfusion z⟩
          | true =>
            refine ⟨_, rfl, u, _, rfl, td.same sm3, hd, by omega, fun H4 sm4 => ⟨_, rfl, rfl, _, rfl, sm3.trans sm4, fun hb => ?_, fun hb => ?_⟩⟩
            · refine bad fun d' hd' h => ?_
              rw [hpa] at hd'; cases hd'
              rw [h.2] at hb; simp at hb
            · have e5 : textOf (.tuple ds) = z := by
                have : decide (V.str (textOf (.tuple ds)) = V.str z) = true := by simpa using hb
                exact V.str.inj (of_decide_eq_true this)
              refine ⟨_, rfl, ?_⟩
              unfold readP
              rw [hpa]
              exact if_pos ⟨hd, e5⟩
      · rintro b H3 ⟨sm3, hb1, hb2⟩
        refine ite2 (fun e => ?_) (fun e => ?_)
        · exact ⟨_, rfl, _, rfl, fun dd hdd => hn (fun s y => by cases y; exact hb1 e) dd H3 ((sm1.trans sm2).trans sm3) hdd⟩
        · obtain ⟨d, e6, e7⟩ := hb2 (Bool.eq_false_iff.mpr e)
          obtain ⟨td, nl, _⟩ := h1 d e6
          exact ⟨_, rfl, hyes d e7 u H3 ((sm1.trans sm2).trans sm3) (td.same sm3) nl⟩
end
end My

namespace My
open PySem PySem.Spec PyProof.Rows L2 LamX
/-- a function of no parameters, held as a value -/
def FnV (P : Program) (w : World) (K : PySem.W.Frag) (mg : Str → Option Value) (base : Heap) (k : Nat) (f : Addr) (sp : Sp) (H : Hp) : Prop :=
  ∃ fd : FuncData, FnG P w K mg base (L2.CX P w) k f fd [] sp ∧ H f = some (frzP (FnObj fd)) ∧ bindArgs fd ⟨[], []⟩ = pure []
/-- repr tells the same of it, asked twice -/
def Shown (K : PySem.W.Frag) (H : Hp) (v : V) : Prop := (∃ d, TD H v d ∧ d.showable = true ∧ d.hasDict = false ∧ d.depth ≤ 60 ∧ d.shown.length ≤ sizeLine ∧ ∀ i, d = .int i → i.natAbs.log2 < 1920) ∨ ∃ a, v = .ref a ∧ H a = some (.dK [])
theorem Shown.same {K : PySem.W.Frag} {H H' : Hp} {v : V} (h : Shown K H v) (s : Same H H') : Shown K H' v := by
  rcases h with ⟨d, t, r⟩ | ⟨a, e, h⟩
  · exact .inl ⟨d, t.same s, r⟩
  · exact .inr ⟨a, e, s _ _ h⟩
/-- a call of the function f, which ends with φ or with an exception of which ψ is true -/
def Does (P : Program) (w : World) (K : PySem.W.Frag) (mg : Str → Option Value) (base : Heap) (f : Addr) (H : Hp) (φ : V → Hp → Prop) (ψ : XK) : Prop :=
  ∃ sp : Sp, FnV P w K mg base 16 f sp H ∧ ∀ (Q : VK) (E : XK), (∀ v H', φ v H' → Q v H') → (∀ cls d H', ψ cls d H' → E cls d H') → sp [] H Q E
/-- _law_caught(call) -/
def spCaught (P : Program) (w : World) (K : PySem.W.Frag) (mg : Str → Option Value) (base : Heap) (L : Addr) : Sp := fun vs H Q _ => ∃ f : Addr, vs = [.ref f] ∧
  Does P w K mg base f H (fun _ H' => Q .non H') (fun cls d H' => PySem.W.exmOne K cls (.ref L) = some true ∧ ∀ a, H' a = none → Q (.ref a) (upd H' a (exT a cls d)))
/-- _law_is_refused(call, value) -/
def spRefused (P : Program) (w : World) (K : PySem.W.Frag) (mg : Str → Option Value) (base : Heap) (C : Addr) : Sp := fun vs H Q _ => ∃ (f : Addr) (v : V), vs = [.ref f, v] ∧
  Does P w K mg base f H (fun _ _ => False) (fun cls d H' => cls = .ref C ∧ ∃ dd, d = some dd ∧ H' dd = some (.xd [("value", v)]) ∧ Shown K H' v ∧ ∀ H2, Same H' H2 → Q (.bl true) H2)
section
variable {P : Program} {w : World} {K : PySem.W.Frag} {mg : Str → Option Value} {base : Heap} {A : Nat → Addr} {D : Nat → FuncData}
theorem ok_caught (T : Txt P K mg A D) : FnG P w K mg base CX0 17 (A 19) (D 19) ["call"] (spCaught P w K mg base (A 40)) := by
  refine def_ok0 T.F__law_caught sc__law_caught (fun vs H Q E h => ?_) (fun cdv Ar outer s H vs Q E hr hG h => ?_)
  · obtain ⟨f, rfl, _⟩ := h; rfl
  · obtain ⟨f, rfl, sp, ⟨fd, F, hf, hb⟩, q⟩ := h
    refine ⟨_, pss_cons (ps_set (i := 1) sc__law_caught.nd rfl (Or.inl rfl) pe_non)
      (pss_cons (ps_try_hold (i := 2) (Wout := fun _ _ _ _ => False) (tb := fun W => tDrop (tCallV P w K mg base 16 0 (WE W))) rfl rfl rfl sc__law_caught.nd rfl rfl ⟨rfl, by decide, Or.inl T.g_LabError⟩ L2.takes0
        (fun W pn xe tk _ => pss_one (ps_expr (pe_callV (k := 16) (i := 0) (E := WE W) hr hG rfl (Or.inl rfl) (fun σ => passAt tk σ))))
        (fun a pn => pss_one (ps_set (i := 1) sc__law_caught.nd rfl (Or.inl rfl) (pv 2))))
      (pss_one (ps_ret (pv 1)))), ?_⟩
    refine ⟨f, fd, sp, rfl, F, hf, hb, ?_⟩
    exact q _ _ (fun v H' z => ⟨_, rfl, z⟩) fun cls d H' ⟨e, k⟩ => ⟨true, e, fun _ a na => ⟨_, rfl, _, rfl, k a na⟩, fun z => Bool.noConfusion z⟩
end
end My

namespace My
open PySem PySem.Spec PyProof.Rows L2 LamX
theorem empty_reads {X : Cx} {pins : List (Addr × Obj)} {σ : L2.St} {H : Hp} {s : Shared} (I : Inv X pins σ H s) {a : Addr} (h : H a = some (.dK [])) : (a == sysModules) = false ∧ Reads s.heap (.ref a) (.dict []) (a :: [] ++ []) := by
  obtain ⟨_, ns, vs, kv, o, es, ep, e1, e2, e3, _, pr, _⟩ := (show ObjOk X.prog X.w H s.heap a (.dK []) from I.hok a _ h)
  cases kv
  have ee : es.toList = [] := by
    cases hq : es.toList with
    | nil => rfl
    | cons x r => rw [hq] at pr; cases pr
  refine ⟨ns, .dict e1 e2.1 e3 ?_ ?_⟩
  · rw [ee]; exact .nil
  · rw [ee]; exact .nil
/-- repr(x), whatever text it is -/
def rShown (K : PySem.W.Frag) : List V → Hp → VK → Prop := fun xs H Q => ∃ x, xs = [x] ∧ Shown K H x ∧ ∃ t : Str, Q (.str t) H
/-- the text that repr tells -/
def ShT (K : PySem.W.Frag) (H : Hp) (v : V) (t : Str) : Prop := (∃ d, TD H v d ∧ d.showable = true ∧ d.hasDict = false ∧ d.depth ≤ 60 ∧ d.shown.length ≤ sizeLine ∧ (∀ i, d = .int i → i.natAbs.log2 < 1920) ∧ t = d.shown) ∨ ∃ a, v = .ref a ∧ H a = some (.dK []) ∧ t = (PyData.dict []).shown
theorem Shown.text {K : PySem.W.Frag} {H : Hp} {v : V} (h : Shown K H v) : ∃ t, ShT K H v t := by
  rcases h with ⟨d, a, b, c, e, f, g⟩ | ⟨a, e, h⟩
  · exact ⟨_, .inl ⟨d, a, b, c, e, f, g, rfl⟩⟩
  · exact ⟨_, .inr ⟨a, e, h, rfl⟩⟩
def rSh (K : PySem.W.Frag) : List V → Hp → VK → Prop := fun xs H Q => ∃ x t, xs = [x] ∧ ShT K H x t ∧ Q (.str t) H
theorem call_sh {X : Cx} (hG : X.A.guards = some []) (hu : X.A.units + 64 < cLine) : CallR X (.builtin "repr") (rSh X.K) := by
  rintro pins s σ H xs us Q I r ⟨x, t, rfl, ⟨d, td, h1, h2, h3, h4, h5, rfl⟩ | ⟨a, rfl, ha, rfl⟩, q⟩
  · exact call_rep hG hu pins s σ H _ us Q I r ⟨x, d, rfl, td.dp, h1, h2, h3, h4, h5, q⟩
  · cases r with
    | cons ra rn =>
      cases rn; cases ra
      obtain ⟨ns, rd⟩ := empty_reads I ha
      refine repr_of_reads' rd rfl (fun _ hm => ?_) hG (by show X.A.units + ((PyData.dict []).depth + 1) < cLine; have : (PyData.dict []).depth ≤ 3 := by decide
                                                           omega) (fun _ _ z => z) (fun h' u tk hk => ⟨.str _, H, I.kept hk, ⟨_, rfl⟩, q⟩) (by rw [sizeLine_eq]; decide +kernel)
      have : sysModules = a := by simpa using hm
      subst this
      simp at ns
section
variable {P : Program} {w : World} {K : PySem.W.Frag} {mg : Str → Option Value} {base : Heap} {A : Nat → Addr} {D : Nat → FuncData}
theorem ok_refused (T : Txt P K mg A D) : FnG P w K mg base CX0 18 (A 20) (D 20) ["call", "value"] (spRefused P w K mg base (A 42)) := by
  have G := ok_caught (P := P) (w := w) (base := base) T
  refine def_ok0 T.F__law_is_refused sc__law_is_refused (fun vs H Q E h => ?_) (fun cdv Ar outer s H vs Q E hr hG h => ?_)
  · obtain ⟨f, v, rfl, _⟩ := h; rfl
  · obtain ⟨f, v, rfl, sp, F, q⟩ := h
    have nm : ∀ {X : Cx}, X.mg = mg → ∃ u, X.mg "BadPaper" = some u ∧ RelV (.ref (A 42)) u := fun e => ⟨_, by rw [e]; exact T.g_BadPaper, rfl⟩
    refine ⟨_, pss_cons (ps_set (i := 2) sc__law_is_refused.nd rfl (Or.inl rfl) (pe_cg G (hr.mono (by decide)) hG (by rfl) T.g__law_caught T.F__law_caught.kp T.b__law_caught pass0 (pa_cons (pv 0) pa_nil)))
      (pss_one (ps_ret (pe_and (pe_callB call_isHeld (by rfl) T.n_isinstance (by decide +kernel) (pa_cons (pv 2) (pa_cons (pe_gl (v := .ref (A 42)) ⟨_, T.g_BadPaper, rfl⟩) pa_nil)))
        (pe_and (pe_callB call_isHeld (by rfl) T.n_isinstance (by decide +kernel) (pa_cons (pv 2) (pa_cons (pe_bltn (v := .ty "ValueError") (by rfl) T.n_ValueError (by decide +kernel) rfl) pa_nil)))
        (pe_one (pe_cmpR op_eq (pe_callB (call_sh hG hr.units) (by rfl) T.n_repr (by decide +kernel) (pa_cons (pe_heldAt (pv 2)) pa_nil)) (pe_callB (call_sh hG hr.units) (by rfl) T.n_repr (by decide +kernel) (pa_cons (pv 1) pa_nil)) (nomark _))))))), ?_⟩
    refine ⟨_, rfl, f, rfl, sp, F, fun Q1 E1 h1 h2 => q Q1 E1 (fun v H' z => z.elim) ?_⟩
    rintro cls d H1 ⟨rfl, dd, rfl, hdd, shn, k⟩
    refine h2 _ _ _ ⟨T.x_bad, fun a na => ?_⟩
    have sm := same_upd (o := exT a (.ref (A 42)) (some dd)) na
    have ha : (upd H1 a (exT a (.ref (A 42)) (some dd))) a = some (exT a (.ref (A 42)) (some dd)) := upd_same
    generalize upd H1 a (exT a (.ref (A 42)) (some dd)) = H2 at sm ha ⊢
    obtain ⟨t, ht⟩ := (shn.same sm).text
    have kself : PySem.W.kitOne K (.ref (A 42)) (.ref (A 42)) = some true := by unfold PySem.W.kitOne; rw [if_pos (beq_self_eq_true _)]
    refine ⟨_, rfl, a, .ref (A 42), some dd, .ref (A 42), .ref (A 42), rfl, ha, fun u r => r, kself, _, rfl, ?_⟩
    refine ⟨_, rfl, a, .ref (A 42), some dd, .ty "ValueError", .type "ValueError", rfl, ha, fun u r => r, T.i_bad, _, rfl, ?_⟩
    refine ⟨_, rfl, a, A 42, dd, [("value", v)], v, rfl, ha, T.xf, T.bad.noN, sm _ _ hdd, by simp [List.lookup], v, t, rfl, ht, _, rfl, v, t, rfl, ht, rfl, ?_⟩
    rw [decide_eq_true rfl]
    exact k _ sm
end
end My

namespace My
open PySem PySem.Spec PyProof.Rows L2 TL
/-! ### what is printed is read again -/
theorem text_nat (n : Nat) : (toString ((n : Nat) : Int) : Str).cps.toList = numL n := tl_num n
theorem text_neg (n : Nat) : (toString (-((n + 1 : Nat) : Int)) : Str).cps.toList = 45 :: numL (n + 1) := by
  have e := PyProof.Rows.toString_neg (n := -((n + 1 : Nat) : Int)) (by omega)
  rw [e, show (0 - -((n + 1 : Nat) : Int)) = ((n + 1 : Nat) : Int) by omega]
  show tl (Str.ofString ("-" ++ toString ((n + 1 : Nat) : Int))) = _
  rw [tl_ofString, String.toList_append, List.map_append, ← tl_ofString (toString ((n + 1 : Nat) : Int)), tl_num]; rfl
theorem numL_le {n : Nat} (h : n < 10 ^ 300) : 1 ≤ (numL n).length ∧ (numL n).length ≤ 300 :=
  ⟨List.length_pos_iff.mpr (numL_ne n), numL_len (by decide) h⟩
theorem allDig (n : Nat) : (numL n).all digS = true := List.all_eq_true.mpr fun c hc => (dig_iff c).mpr (numL_digits n c hc)
theorem readInt_text {i : Int} (h : i.natAbs < 10 ^ 300) : readInt (toString i : Str) = some i := by
  obtain ⟨n, rfl | rfl⟩ : ∃ n : Nat, i = (n : Int) ∨ i = -((n + 1 : Nat) : Int) := by
    rcases Int.lt_or_le i 0 with z | z
    · exact ⟨i.natAbs - 1, .inr (by omega)⟩
    · exact ⟨i.natAbs, .inl (by omega)⟩
  · have hl := numL_le (n := n) (by omega)
    have ef : fig (toString ((n : Nat) : Int) : Str) = (toString ((n : Nat) : Int) : Str) := by
      rcases fig_of (toString ((n : Nat) : Int) : Str) with ⟨r, e1, _⟩ | ⟨e1, _⟩
      · rw [text_nat] at e1
        have := numL_digits n 45 (by rw [e1]; exact List.mem_cons_self)
        omega
      · exact e1
    have el : (toString ((n : Nat) : Int) : Str).length = (numL n).length := by rw [← text_nat]; exact Array.length_toList.symm
    have ok : okFig (toString ((n : Nat) : Int) : Str) = true := by
      unfold okFig
      rw [ef, text_nat, el, decide_eq_true hl.1, decide_eq_true hl.2, allDig]; rfl
    rw [readInt_of ok (int_num (by omega)), if_pos rfl]
  · have hl := numL_le (n := n + 1) (by omega)
    have ef : (fig (toString (-((n + 1 : Nat) : Int)) : Str)).cps.toList = numL (n + 1) := by
      rcases fig_of (toString (-((n + 1 : Nat) : Int)) : Str) with ⟨r, e1, e2⟩ | ⟨_, e2⟩
      · rw [text_neg] at e1
        rw [e2]
        exact (List.cons.inj e1).2.symm
      · exact absurd (text_neg n) (e2 _)
    have el : (fig (toString (-((n + 1 : Nat) : Int)) : Str)).length = (numL (n + 1)).length := by rw [← ef]; exact Array.length_toList.symm
    have el2 : (toString (-((n + 1 : Nat) : Int)) : Str).length = (numL (n + 1)).length + 1 := by
      have := text_neg n
      have e3 := congrArg List.length this
      rw [List.length_cons, Array.length_toList] at e3
      exact e3
    have ok : okFig (toString (-((n + 1 : Nat) : Int)) : Str) = true := by
      unfold okFig
      rw [ef, el, decide_eq_true hl.1, decide_eq_true hl.2, allDig]; rfl
    have ev := intText_neg (x := (toString (-((n + 1 : Nat) : Int)) : Str)) (text_neg n) (numL_digits _) (numL_ne _) (by omega)
    rw [numL_val] at ev
    rw [readInt_of ok ev, if_pos rfl]

mutual
def okD : PyData → Bool
  | .tuple ds => okDs ds
  | d => partD d
def okDs : List PyData → Bool
  | [] => true
  | d :: ds => okD d && okDs ds
end
mutual
def fl : PyData → List Str
  | .tuple ds => ("(" : Str) :: (fls ds ++ [(")" : Str)])
  | d => [partTxt d]
def fls : List PyData → List Str
  | [] => []
  | d :: ds => fl d ++ fls ds
end
theorem okDs_all : ∀ ds : List PyData, okDs ds = ds.all okD
  | [] => rfl
  | d :: ds => by rw [okDs, okDs_all ds]; rfl
theorem ok_nest : ∀ (n : Nat) (d : PyData), nest n d = true → okD d = true
  | 0, d, h => by cases d <;> cases h
  | n + 1, .tuple ds, h => by
    show okDs ds = true
    rw [okDs_all, List.all_eq_true]
    intro e he
    have h2 : ds.all (fun d => partD d || nest n d) = true := h
    have h3 := List.all_eq_true.mp h2 e he
    rw [Bool.or_eq_true] at h3
    rcases h3 with h3 | h3
    · cases e <;> first | exact h3 | cases h3
    · exact ok_nest n e h3
  | n + 1, .none, h => by cases h
  | n + 1, .bool _, h => by cases h
  | n + 1, .int _, h => by cases h
  | n + 1, .str _, h => by cases h
  | n + 1, .list _, h => by cases h
  | n + 1, .dict _, h => by cases h
/-- what the signs of a part are -/
def partSign (c : Nat) : Bool := decide (33 ≤ c) && (decide (c < 128) && (!(decide (c = 40)) && !(decide (c = 41))))
theorem partSign_plain {c : Nat} (h : partSign c = true) : plain c = true := by
  unfold partSign at h
  simp at h
  unfold plain brac
  simp; omega
theorem signOk_part {c : Nat} (h : signOk c = true) : partSign c = true := by
  have a1 : ∀ x ∈ smallS.cps.toList, partSign x = true := by decide +kernel
  have a2 : ∀ x ∈ figsS.cps.toList, partSign x = true := by decide +kernel
  unfold signOk at h
  rw [Bool.or_eq_true, Bool.or_eq_true] at h
  rcases h with h | h | h
  · exact a1 _ (of_decide_eq_true h)
  · exact a2 _ (of_decide_eq_true h)
  · have z2 : [c] = [46] := congrArg (fun s : Str => s.cps.toList) (of_decide_eq_true h)
    rw [(List.cons.inj z2).1]; rfl
theorem int_signs (i : Int) : (toString i : Str).cps.toList ≠ [] ∧ ∀ c ∈ (toString i : Str).cps.toList, partSign c = true := by
  have dig : ∀ {c n : Nat}, c ∈ numL n → partSign c = true := fun {c n} h => by
    have := numL_digits n c h
    unfold partSign
    simp; omega
  obtain ⟨n, rfl | rfl⟩ : ∃ n : Nat, i = (n : Int) ∨ i = -((n + 1 : Nat) : Int) := by
    rcases Int.lt_or_le i 0 with z | z
    · exact ⟨i.natAbs - 1, .inr (by omega)⟩
    · exact ⟨i.natAbs, .inl (by omega)⟩
  · rw [text_nat]
    exact ⟨numL_ne n, fun c hc => dig hc⟩
  · rw [text_neg]
    refine ⟨by simp, fun c hc => ?_⟩
    rcases List.mem_cons.mp hc with rfl | hc
    · rfl
    · exact dig hc
theorem part_signs {d : PyData} (h : partD d = true) : (partTxt d).cps.toList ≠ [] ∧ ∀ c ∈ (partTxt d).cps.toList, partSign c = true := by
  cases d with
  | none => exact ⟨by decide, by decide⟩
  | int i => exact int_signs i
  | str s =>
    show ((if s = "" then ("-" : Str) else s).cps.toList ≠ []) ∧ _
    by_cases e : s = ""
    · show _ ∧ ∀ c ∈ (if s = "" then ("-" : Str) else s).cps.toList, _
      rw [if_pos e]
      exact ⟨by decide, by decide⟩
    · show _ ∧ ∀ c ∈ (if s = "" then ("-" : Str) else s).cps.toList, _
      rw [if_neg e]
      exact ⟨fun z => e (str_eq (by rw [z]; rfl)), fun c hc => signOk_part (signs_of h c hc)⟩
  | _ => cases h
theorem head_sign {s : Str} (h : signWord s = true) (e : s ≠ "") : ∃ c r, s.cps.toList = c :: r ∧ 97 ≤ c ∧ c ≤ 122 := by
  unfold signWord at h
  rw [decide_eq_false e, Bool.false_or, Bool.and_eq_true] at h
  have h1 := h.1
  unfold headOk at h1
  cases hc : s.cps.toList with
  | nil => rw [hc] at h1; cases h1
  | cons c r =>
    rw [hc] at h1
    have a1 : ∀ x ∈ smallS.cps.toList, 97 ≤ x ∧ x ≤ 122 := by decide +kernel
    exact ⟨c, r, rfl, a1 c (of_decide_eq_true h1)⟩
theorem readInt_word {s : Str} (h : signWord s = true) (e : s ≠ "") : readInt s = none := by
  obtain ⟨c, r, hc, h1, h2⟩ := head_sign h e
  refine readInt_no fun ok => ?_
  unfold okFig at ok
  rw [Bool.and_eq_true] at ok
  have hf : fig s = s := by
    rcases fig_of s with ⟨r2, e1, _⟩ | ⟨e1, _⟩
    · rw [hc] at e1
      have := (List.cons.inj e1).1
      omega
    · exact e1
  rw [hf] at ok
  have := (dig_iff c).mp (List.all_eq_true.mp ok.2 c (by rw [hc]; exact List.mem_cons_self))
  omega
theorem partIn_txt {d : PyData} (h : partD d = true) : partIn (partTxt d) = some d := by
  cases d with
  | none => rfl
  | int i =>
    show partIn (toString i) = _
    have hr := readInt_text (i := i) (of_decide_eq_true h)
    have n1 : (toString i : Str) ≠ "!" := fun z => by
      have : readInt "!" = some i := by rw [← z]; exact hr
      have y : readInt "!" = none := readInt_no (by decide)
      rw [y] at this; cases this
    have n2 : (toString i : Str) ≠ "-" := fun z => by
      have : readInt "-" = some i := by rw [← z]; exact hr
      have y : readInt "-" = none := readInt_no (by decide)
      rw [y] at this; cases this
    unfold partIn
    rw [if_neg n1, if_neg n2, hr]
  | str s =>
    have h2 : signWord s = true := h
    by_cases e : s = ""
    · subst e; rfl
    · show partIn (if s = "" then ("-" : Str) else s) = _
      rw [if_neg e]
      obtain ⟨c, r, hc, h1, h3⟩ := head_sign h2 e
      have n1 : s ≠ "!" := fun z => by
        rw [z] at hc
        have q : ([33] : List Nat) = c :: r := hc
        have := (List.cons.inj q).1
        omega
      have n2 : s ≠ "-" := fun z => by
        rw [z] at hc
        have q : ([45] : List Nat) = c :: r := hc
        have := (List.cons.inj q).1
        omega
      unfold partIn
      rw [if_neg n1, if_neg n2, readInt_word h2 e]
      exact if_pos h2
  | _ => cases h
end My

namespace My
open PySem PySem.Spec PyProof.Rows L2 TL
/-! ### a printed paper's words, and its reading -/
def cL (s : Str) : List Nat := s.cps.toList
theorem cL_app (a b : Str) : cL (a ++ b) = cL a ++ cL b := by
  show (a ++ b).cps.toList = _
  rw [PySem.Str.cps_append, Array.toList_append]; rfl
def stopL (r : List Nat) : Prop := r = [] ∨ ∃ c r', r = c :: r' ∧ plain c = false
theorem toks_part {l : List Nat} (h0 : l ≠ []) (h : ∀ c ∈ l, partSign c = true) {r : List Nat} (hr : stopL r) : toks (l ++ r) = l :: toks r := by
  cases l with
  | nil => exact absurd rfl h0
  | cons c l =>
    have hp := partSign_plain (h c List.mem_cons_self)
    unfold plain at hp
    have n1 : c ≠ 32 := fun z => by subst z; simp at hp
    have n2 : ¬ brac c = true := fun z => by rw [z] at hp; simp at hp
    have hl : ∀ a ∈ l, plain a = true := fun a ha => partSign_plain (h a (List.mem_cons_of_mem _ ha))
    have h3 : r.takeWhile plain = [] ∧ r.dropWhile plain = r := by
      rcases hr with rfl | ⟨x, r', rfl, hx⟩
      · exact ⟨rfl, rfl⟩
      · simp [List.takeWhile_cons, List.dropWhile_cons, hx]
    rw [List.cons_append, toks, if_neg n1, if_neg n2, List.takeWhile_append_of_pos hl, List.dropWhile_append_of_pos hl, h3.1, h3.2, List.append_nil]
theorem toks_lp (r : List Nat) : toks (40 :: r) = [40] :: toks r := by rw [toks, if_neg (by decide), if_pos (show brac 40 = true from rfl)]
theorem toks_rp (r : List Nat) : toks (41 :: r) = [41] :: toks r := by rw [toks, if_neg (by decide), if_pos (show brac 41 = true from rfl)]
theorem cL_brk (l : List Str) : cL (brk l) = 40 :: (cL (Txt.join " " l) ++ [41]) := by
  unfold brk
  rw [cL_app, cL_app]; rfl
theorem join_two (x y : Str) (r : List Str) : Txt.join " " (x :: y :: r) = x ++ " " ++ Txt.join " " (y :: r) := by
  rw [TL.join_eq, TL.join_eq]; rfl
theorem join_one (x : Str) : Txt.join " " [x] = x := by rw [TL.join_eq]; rfl
theorem join_none : Txt.join " " [] = "" := by rw [TL.join_eq]; rfl
theorem toks_pt {d : PyData} (h : partD d = true) {r : List Nat} (hr : stopL r) : toks (cL (partTxt d) ++ r) = [cL (partTxt d)] ++ toks r := by
  obtain ⟨a, b⟩ := part_signs h
  exact toks_part a b hr
mutual
theorem toks_text : ∀ d : PyData, okD d = true → ∀ r, stopL r → toks (cL (textOf d) ++ r) = (fl d).map cL ++ toks r
  | .tuple ds, h, r, hr => by
    show toks (cL (brk (textsOf ds)) ++ r) = (("(" : Str) :: (fls ds ++ [(")" : Str)])).map cL ++ toks r
    rw [cL_brk, List.cons_append, toks_lp, List.append_assoc, show ([41] ++ r : List Nat) = 41 :: r from rfl, toks_texts ds h _ (.inr ⟨41, _, rfl, rfl⟩)]
    show _ = [40] :: ((fls ds ++ [(")" : Str)]).map cL ++ toks r)
    rw [List.map_append, List.append_assoc]
    show _ :: (_ ++ toks (41 :: r)) = _ :: (_ ++ ([41] :: toks r))
    rw [toks_rp]
  | .none, h, r, hr => toks_pt (d := .none) h hr
  | .int i, h, r, hr => toks_pt (d := .int i) h hr
  | .str s, h, r, hr => toks_pt (d := .str s) h hr
  | .bool _, h, _, _ => by cases h
  | .list _, h, _, _ => by cases h
  | .dict _, h, _, _ => by cases h
theorem toks_texts : ∀ ds : List PyData, okDs ds = true → ∀ r, stopL r → toks (cL (Txt.join " " (textsOf ds)) ++ r) = (fls ds).map cL ++ toks r
  | [], h, r, hr => by
    show toks (cL (Txt.join " " []) ++ r) = _
    rw [join_none]; rfl
  | [d], h, r, hr => by
    have h2 : (okD d && true) = true := h
    rw [Bool.and_true] at h2
    show toks (cL (Txt.join " " [textOf d]) ++ r) = (fl d ++ []).map cL ++ toks r
    rw [join_one, List.append_nil]
    exact toks_text d h2 r hr
  | d :: e :: ds, h, r, hr => by
    have h2 : (okD d && okDs (e :: ds)) = true := h
    rw [Bool.and_eq_true] at h2
    show toks (cL (Txt.join " " (textOf d :: textOf e :: textsOf ds)) ++ r) = (fl d ++ fls (e :: ds)).map cL ++ toks r
    rw [join_two, cL_app, cL_app, List.append_assoc, List.append_assoc]
    show toks (cL (textOf d) ++ (32 :: (cL (Txt.join " " (textOf e :: textsOf ds)) ++ r))) = _
    rw [toks_text d h2.1 _ (.inr ⟨32, _, rfl, rfl⟩)]
    show _ ++ toks (32 :: (cL (Txt.join " " (textsOf (e :: ds))) ++ r)) = _
    rw [toks_blank rfl, toks_texts (e :: ds) h2.2 r hr, List.map_append, List.append_assoc]
end
theorem ofL_cL (s : Str) : ofL (cL s) = s := rfl
theorem words_text {d : PyData} (h : okD d = true) : wordsOf (textOf d) = fl d := by
  have := toks_text d h [] (.inl rfl)
  rw [List.append_nil] at this
  unfold wordsOf
  show (toks (cL (textOf d))).map ofL = _
  rw [this, show toks [] = [] by rw [toks], List.append_nil, List.map_map]
  exact List.map_id'' (fun s => rfl) _
theorem step_part {d : PyData} (h : partD d = true) (top : List PyData) (rest : List (List PyData)) : step (top :: rest, none) (partTxt d) = some ((top ++ [d]) :: rest, none) := by
  obtain ⟨a, b⟩ := part_signs h
  have n1 : partTxt d ≠ "(" := fun z => by
    have := b 40 (by rw [z]; decide)
    revert this; decide
  have n2 : partTxt d ≠ ")" := fun z => by
    have := b 41 (by rw [z]; decide)
    revert this; decide
  unfold step
  show (if partTxt d = "(" then _ else if partTxt d = ")" then _ else match partIn (partTxt d) with | none => none | some d => some ((top ++ [d]) :: rest, none)) = _
  rw [if_neg n1, if_neg n2, partIn_txt h]
theorem run_one {d : PyData} (h : partD d = true) (top : List PyData) (rest : List (List PyData)) : run (top :: rest, none) [partTxt d] = some ((top ++ [d]) :: rest, none) := by
  unfold run
  rw [step_part h]; rfl
mutual
theorem run_text : ∀ d : PyData, okD d = true → ∀ top rest, run (top :: rest, none) (fl d) = some ((top ++ [d]) :: rest, none)
  | .tuple ds, h, top, rest => by
    show run (top :: rest, none) (("(" : Str) :: (fls ds ++ [(")" : Str)])) = _
    show run ([] :: top :: rest, none) (fls ds ++ [(")" : Str)]) = _
    rw [run_split, run_texts ds h]; rfl
  | .none, h, top, rest => run_one (d := .none) h top rest
  | .int i, h, top, rest => run_one (d := .int i) h top rest
  | .str s, h, top, rest => run_one (d := .str s) h top rest
  | .bool _, h, _, _ => by cases h
  | .list _, h, _, _ => by cases h
  | .dict _, h, _, _ => by cases h
theorem run_texts : ∀ ds : List PyData, okDs ds = true → ∀ top rest, run (top :: rest, none) (fls ds) = some ((top ++ ds) :: rest, none)
  | [], h, top, rest => by rw [List.append_nil]; rfl
  | d :: ds, h, top, rest => by
    have h2 : (okD d && okDs ds) = true := h
    rw [Bool.and_eq_true] at h2
    show run _ (fl d ++ fls ds) = _
    rw [run_split, run_text d h2.1]
    show run ((top ++ [d]) :: rest, none) (fls ds) = _
    rw [run_texts ds h2.2, List.append_assoc]; rfl
end
theorem parse_text {ds : List PyData} (h : okDs ds = true) : parse (wordsOf (textOf (.tuple ds))) = some (.tuple ds) := by
  rw [words_text (d := .tuple ds) h]
  unfold parse
  show (run ([[]], none) (fls ds ++ [(")" : Str)])).bind (·.2) = _
  rw [run_split, run_texts ds h]; rfl
theorem nest_tup {n : Nat} {d : PyData} (h : nest n d = true) : ∃ ds, d = .tuple ds := by
  cases n with
  | zero => cases d <;> cases h
  | succ n => cases d <;> first | exact ⟨_, rfl⟩ | cases h
/-- what is printed is read again -/
theorem readP_text {d : PyData} (h : nest 12 d = true) : readP (textOf d) = some d := by
  obtain ⟨ds, rfl⟩ := nest_tup h
  unfold readP
  rw [parse_text (ds := ds) (ok_nest 12 _ h)]
  exact if_pos ⟨h, rfl⟩
/-- a paper that is too deep is not read -/
theorem readP_deep {ds : List PyData} (o : okDs ds = true) (h : nest 12 (.tuple ds) = false) : readP (textOf (.tuple ds)) = none := by
  unfold readP
  rw [parse_text o]
  exact if_neg fun z => by rw [h] at z; cases z.1
theorem readP_ok {s : Str} {d : PyData} (h : readP s = some d) : nest 12 d = true ∧ textOf d = s := by
  unfold readP at h
  split at h
  · split at h
    · rename_i z
      cases h; exact z
    · cases h
  · cases h
end My

namespace My
open PySem PySem.Spec PyProof.Rows L2 TL
/-! ### texts that are not read -/
theorem cnt_part {d : PyData} (h : partD d = true) (c : Nat) (hc : partSign c = false) : (cL (partTxt d)).count c = 0 :=
  List.count_eq_zero.mpr fun z => by rw [(part_signs h).2 c z] at hc; cases hc
theorem cnt_sep (c : Nat) (hc : c ≠ 32) : (cL " ").count c = 0 := List.count_eq_zero.mpr fun z => hc (List.mem_singleton.mp z)
mutual
theorem bal_text : ∀ d : PyData, okD d = true → (cL (textOf d)).count 40 = (cL (textOf d)).count 41
  | .tuple ds, h => by
    have := bal_texts ds h
    show (cL (brk (textsOf ds))).count 40 = (cL (brk (textsOf ds))).count 41
    rw [cL_brk, List.count_cons, List.count_cons, List.count_append, List.count_append, this]; rfl
  | .none, h => by
    show (cL (partTxt .none)).count 40 = (cL (partTxt .none)).count 41
    rw [cnt_part (d := .none) h 40 rfl, cnt_part (d := .none) h 41 rfl]
  | .int i, h => by
    show (cL (partTxt (.int i))).count 40 = (cL (partTxt (.int i))).count 41
    rw [cnt_part (d := .int i) h 40 rfl, cnt_part (d := .int i) h 41 rfl]
  | .str s, h => by
    show (cL (partTxt (.str s))).count 40 = (cL (partTxt (.str s))).count 41
    rw [cnt_part (d := .str s) h 40 rfl, cnt_part (d := .str s) h 41 rfl]
  | .bool _, h => by cases h
  | .list _, h => by cases h
  | .dict _, h => by cases h
theorem bal_texts : ∀ ds : List PyData, okDs ds = true → (cL (Txt.join " " (textsOf ds))).count 40 = (cL (Txt.join " " (textsOf ds))).count 41
  | [], h => by
    show (cL (Txt.join " " [])).count 40 = (cL (Txt.join " " [])).count 41
    rw [join_none]; rfl
  | [d], h => by
    have h2 : (okD d && true) = true := h
    rw [Bool.and_true] at h2
    show (cL (Txt.join " " [textOf d])).count 40 = (cL (Txt.join " " [textOf d])).count 41
    rw [join_one]
    exact bal_text d h2
  | d :: e :: ds, h => by
    have h2 : (okD d && okDs (e :: ds)) = true := h
    rw [Bool.and_eq_true] at h2
    have i2 := bal_texts (e :: ds) h2.2
    show (cL (Txt.join " " (textOf d :: textOf e :: textsOf ds))).count 40 = (cL (Txt.join " " (textOf d :: textOf e :: textsOf ds))).count 41
    rw [join_two, cL_app, cL_app, List.count_append, List.count_append, List.count_append, List.count_append, bal_text d h2.1, cnt_sep 40 (by decide), cnt_sep 41 (by decide)]
    show _ + _ + (cL (Txt.join " " (textsOf (e :: ds)))).count 40 = _ + _ + (cL (Txt.join " " (textsOf (e :: ds)))).count 41
    rw [i2]
end
theorem head_text (ds : List PyData) : ∃ r, cL (textOf (.tuple ds)) = 40 :: (r ++ [41]) := ⟨_, cL_brk (textsOf ds)⟩
theorem readP_bal {s : Str} {d : PyData} (h : readP s = some d) : (cL s).count 40 = (cL s).count 41 := by
  obtain ⟨a, b⟩ := readP_ok h
  rw [← b]
  exact bal_text d (ok_nest 12 d a)
theorem readP_head {s : Str} {d : PyData} (h : readP s = some d) : ∃ r, cL s = 40 :: (r ++ [41]) := by
  obtain ⟨a, b⟩ := readP_ok h
  obtain ⟨ds, rfl⟩ := nest_tup a
  rw [← b]
  exact head_text ds
theorem none_of {s : Str} (h : ∀ d, readP s = some d → False) : readP s = none := by
  cases e : readP s with
  | none => rfl
  | some d => exact (h d e).elim
theorem no_bal {s : Str} (h : (cL s).count 40 ≠ (cL s).count 41) : readP s = none := none_of fun d e => h (readP_bal e)
theorem no_head {s : Str} (h : ∀ r, cL s ≠ 40 :: r) : readP s = none := none_of fun d e => by
  obtain ⟨r, e⟩ := readP_head e
  exact h _ e
section
variable {d : PyData} (h : okD d = true) (ds : List PyData)
include h
theorem no_more : readP (textOf d ++ ")") = none := no_bal (by
  have b := bal_text d h
  rw [cL_app, List.count_append, List.count_append, b]
  show _ + 0 ≠ _ + 1
  omega)
end
theorem no_front (s : Str) : readP (" " ++ s) = none := no_head fun r e => by
  rw [cL_app] at e
  have e2 : (32 :: cL s : List Nat) = 40 :: r := e
  have := (List.cons.inj e2).1
  omega
theorem no_empty : readP "" = none := no_head fun r e => by cases e
theorem no_p : readP "p" = none := no_head fun r e => by
  have e2 : ([112] : List Nat) = 40 :: r := e
  have := (List.cons.inj e2).1
  omega
theorem no_less {ds : List PyData} (h : okDs ds = true) {u : Str} (hu : cL u = (cL (textOf (.tuple ds))).dropLast) : readP u = none := no_bal (by
  obtain ⟨r, e⟩ := head_text ds
  have b := bal_text (.tuple ds) h
  rw [e] at b hu
  rw [← List.cons_append, List.count_append, List.count_append] at b
  rw [← List.cons_append, List.dropLast_concat] at hu
  rw [hu]
  have c1 : ([41] : List Nat).count 40 = 0 := rfl
  have c2 : ([41] : List Nat).count 41 = 1 := rfl
  omega)
theorem no_txt {s : Str} (h : decide ((parse (wordsOf s)).map textOf = some s) = false) : readP s = none := none_of fun d e => by
  unfold readP at e
  cases hp : parse (wordsOf s) with
  | none => rw [hp] at e; cases e
  | some y =>
    rw [hp] at e h
    by_cases z : nest 12 y = true ∧ textOf y = s
    · exact of_decide_eq_false h (by rw [← z.2]; show some (textOf y) = some (textOf y); rfl)
    · have e2 : (if nest 12 y = true ∧ textOf y = s then some y else none) = some d := e
      rw [if_neg z] at e2
      cases e2
theorem no_two : readP "()()" = none := no_txt (by decide +kernel)
theorem no_gap : readP "( )" = none := no_txt (by decide +kernel)
theorem no_00 : readP "(00)" = none := no_txt (by decide +kernel)
theorem no_m0 : readP "(-0)" = none := no_txt (by decide +kernel)
theorem no_p1 : readP "(+1)" = none := no_txt (by decide +kernel)
theorem no_1a : readP "(1a)" = none := no_txt (by decide +kernel)
end My

namespace My
open PySem PySem.Spec PyProof.Rows L2
/-! ### a value of the law's own making -/
def somL : List PyData := [.none, .str "", .str "p", .str "p.q1", .str "at", .str "holds", .int 0, .int 7, .int (-12), .int (10 ^ 30)]
def Val : Nat → PyData → Prop
  | 0, .tuple ds => ds.length ≤ 3 ∧ ∀ d ∈ ds, d ∈ somL
  | n + 1, .tuple ds => ds.length ≤ 3 ∧ ∀ d ∈ ds, d ∈ somL ∨ Val n d
  | _, _ => False
def vcost : Nat → Nat
  | 0 => 7
  | n + 1 => 1 + 3 * (1 + vcost n)
def vc : Nat → Nat
  | 0 => 1
  | n + 1 => vcost n
theorem vcost_eq (n : Nat) : vcost n = 1 + 3 * (1 + vc n) := by cases n <;> rfl
theorem vc_pos (n : Nat) : 1 ≤ vc n := by
  cases n with
  | zero => exact Nat.le_refl _
  | succ n => show 1 ≤ vcost n; rw [vcost_eq]; omega
def Item (n : Nat) (d : PyData) : Prop := d ∈ somL ∨ ∃ k, n = k + 1 ∧ Val k d
theorem val_of {n : Nat} {ds : List PyData} (h : ds.length ≤ 3) (h2 : ∀ d ∈ ds, Item n d) : Val n (.tuple ds) := by
  cases n with
  | zero => exact ⟨h, fun d hd => (h2 d hd).elim id fun ⟨k, e, _⟩ => absurd e (by omega)⟩
  | succ n => exact ⟨h, fun d hd => (h2 d hd).elim .inl fun ⟨k, e, v⟩ => .inr (by rw [show n = k by omega]; exact v)⟩
theorem val_items {n : Nat} {ds : List PyData} (h : Val n (.tuple ds)) : ds.length ≤ 3 ∧ ∀ d ∈ ds, Item n d := by
  cases n with
  | zero => exact ⟨h.1, fun d hd => .inl (h.2 d hd)⟩
  | succ n => exact ⟨h.1, fun d hd => (h.2 d hd).elim .inl fun v => .inr ⟨n, rfl, v⟩⟩
theorem PotAt.ne {H : Hp} {p a : Addr} {n : Nat} (h : PotAt H p n) (e : H a = none) : a ≠ p := fun z => by
  obtain ⟨_, _, _, hp, _⟩ := h
  rw [z, hp] at e; cases e
def somV : List V := [.non, .str "", .str "p", .str "p.q1", .str "at", .str "holds", .int 0, .int 7, .int (-12), .int (10 ^ 30)]
theorem som_td {H : Hp} {x : V} (h : x ∈ somV) : ∃ d, d ∈ somL ∧ TD H x d := by
  unfold somV at h
  simp only [List.mem_cons, List.not_mem_nil, or_false] at h
  rcases h with rfl | rfl | rfl | rfl | rfl | rfl | rfl | rfl | rfl | rfl
  · exact ⟨.none, by unfold somL; simp, .non⟩
  all_goals first | exact ⟨_, by unfold somL; simp, .int _⟩ | exact ⟨.str _, by unfold somL; simp, .str _ (by decide)⟩
theorem som_noL {d : PyData} (hd : d ∈ somL) : noL d = true := by
  unfold somL at hd
  simp only [List.mem_cons, List.not_mem_nil, or_false] at hd
  rcases hd with rfl | rfl | rfl | rfl | rfl | rfl | rfl | rfl | rfl | rfl <;> rfl
theorem noLs_all : ∀ ds : List PyData, (∀ d ∈ ds, noL d = true) → noLs ds = true
  | [], _ => rfl
  | d :: ds, h => by
    simp only [noLs, h d List.mem_cons_self, noLs_all ds fun e he => h e (List.mem_cons_of_mem _ he)]; rfl
theorem val_noL : ∀ (n : Nat) (d : PyData), Val n d → noL d = true
  | 0, .tuple ds, h => noLs_all ds fun d hd => som_noL (h.2 d hd)
  | n + 1, .tuple ds, h => noLs_all ds fun d hd => (h.2 d hd).elim som_noL fun v => val_noL n d v
theorem tds_length {H : Hp} {xs : List V} {ds : List PyData} (h : TDs H xs ds) : xs.length = ds.length := by
  obtain ⟨ys, rfl, rfl, _⟩ := h.pairs
  rw [List.length_map, List.length_map]
/-- _law_value(pot, deep) -/
def spValue (n : Nat) : Sp := fun vs H Q _ => ∃ (p : Addr) (m : Nat), vs = [.ref p, .int n] ∧ PotAt H p m ∧ m + vcost n < 2 ^ 60 ∧
  ∀ (v : Addr) xs ds H', H v = none → H' v = some (.tup xs) → TDs H' xs ds → Val n (.tuple ds) → But p H H' → PotAt H' p (m + vcost n) → Q (.ref v) H'
section
variable {P : Program} {w : World} {K : PySem.W.Frag} {mg : Str → Option Value} {base : Heap} {A : Nat → Addr} {D : Nat → FuncData}
theorem value_step (T : Txt P K mg A D) (k n : Nat) (hk : 2 ≤ k) (hn : n ≤ 5) (G__law_value : FnG P w K mg base CX0 k (A 16) (D 16) ["pot", "deep"] fun vs H Q E => ∃ m, n = m + 1 ∧ spValue m vs H Q E) : FnG P w K mg base CX0 (k + 1) (A 16) (D 16) ["pot", "deep"] (spValue n) := by
  have G__law_take := ok_take (P := P) (w := w) (base := base) T
  have G__law_of := ok_of (P := P) (w := w) (base := base) T
  refine def_ok0 T.F__law_value sc__law_value (fun vs H Q E h => ?_) (fun cdv Ar outer s H vs Q E hr hG h => ?_)
  · obtain ⟨p, m, rfl, _⟩ := h; rfl
  · obtain ⟨p, m, rfl, hp, hm, q⟩ := h
    refine ⟨_, (pss_cons (ps_set (i := 2) sc__law_value.nd rfl (Or.inl rfl) (pe_lst (pa_cons pe_non (pa_cons pe_str (pa_cons pe_str (pa_cons pe_str (pa_cons pe_str (pa_cons pe_str (pa_cons pe_int (pa_cons pe_int (pa_cons (pe_un un_neg pe_int) (pa_cons (pe_op op_powB pe_int pe_int) pa_nil))))))))))))
      (pss_cons (ps_set (i := 3) sc__law_value.nd rfl (Or.inl rfl) (pe_lst pa_nil))
      (pss_cons (ps_for (by first | exact PassesOwn.never | exact PassesOwn.leaving | exact L2.passes_of rfl) rfl (pi_range1 rfl T.n_range (pa_cons (pe_cg G__law_take (hr.mono (by first | decide | omega)) hG (by rfl) T.g__law_take T.F__law_take.kp T.b__law_take pass0 (pa_cons (pv 0) (pa_cons pe_int pa_nil))) pa_nil)) (pg_name (i := 4) sc__law_value.nd rfl (Or.inl rfl)) (pss_one (ps_expr (pe_bm PySem.F.plainAttrs_list PySem.F.slot_list_append PySem.F.type_list_append mt_append (pv 3) (pa_cons (pe_ifExp (PW.pt (pw_and (pt_cmpR op_gt (pv 1) pe_int (nomark _)) (pw_and1 (pt_cmpR op_eq (pe_cg G__law_take (hr.mono (by first | decide | omega)) hG (by rfl) T.g__law_take T.F__law_take.kp T.b__law_take pass0 (pa_cons (pv 0) (pa_cons pe_int pa_nil))) pe_int (nomark _))))) (pe_cg G__law_value (hr.mono (by first | decide | omega)) hG (by rfl) T.g__law_value T.F__law_value.kp T.b__law_value pass0 (pa_cons (pv 0) (pa_cons (pe_op op_sub (pv 1) pe_int) pa_nil))) (pe_cg G__law_of (hr.mono (by first | decide | omega)) hG (by rfl) T.g__law_of T.F__law_of.kp T.b__law_of pass0 (pa_cons (pv 0) (pa_cons (pv 2) pa_nil)))) pa_nil)))))
      (pss_one (ps_ret (pe_callTy call_tuple_of (by rfl) T.n_tuple (by decide +kernel) (pa_cons (pv 3) pa_nil))))))), ?_⟩
    have pw : CPowB 10 30 := powB 10 (by decide) (by decide) (by decide) (by decide)
    refine ⟨12, rfl, 10, 30, rfl, rfl, pw, (by decide), fun a ha => ?_⟩
    have hap : a ≠ p := hp.ne ha
    have hp1 := hp.same (same_upd (o := .lst somV) ha)
    refine ⟨by decide, fun f hf => ?_⟩
    have hfp : f ≠ p := hp1.ne hf
    have hfa : f ≠ a := fun z => by rw [z] at hf; exact Option.some_ne_none _ (upd_same.symm.trans hf)
    have hfn : H f = none := by rw [upd_ne hfa] at hf; exact hf
    have hp2 := hp1.same (same_upd (o := .lst []) hf)
    have vq := vcost_eq n
    have vp := vc_pos n
    refine ⟨.ref p, rfl, p, 4, m, rfl, hp2, by omega, by decide, by decide, fun j H3 j0 j1 b3 hp3 => ?_⟩
    refine ⟨j, rfl, by omega, by omega, for_range (fun i σ H' => ∃ u xs ds, σ = [some (.ref p), some (.int n), some (.ref a), some (.ref f), u] ∧ H' a = some (.lst somV) ∧ H' f = some (.lst xs) ∧ TDs H' xs ds ∧ noLs ds = true ∧ ds.length = i ∧ (∀ d ∈ ds, Item n d) ∧ PotAt H' p (m + 1 + i * (1 + vc n)) ∧ But p H H') ⟨none, [], [], rfl, ?_, ?_, .nil, rfl, rfl, (fun d hd => nomatch hd), ?_, ?_⟩ ?_ ?_⟩
    · exact b3 _ _ hap (by rw [upd_ne hfa.symm]; exact upd_same)
    · exact b3 _ _ hfp upd_same
    · exact hp3.mono (by rw [Nat.zero_mul]; omega)
    · exact ((But.of (same_upd ha)).trans (But.of (same_upd hf))).trans b3
    · rintro i σ H4 hi ⟨u, xs, ds, rfl, ha4, hf4, t4, nl4, l4, it4, hp4, b4⟩
      have hfp4 : f ≠ p := hfp
      have put : ∀ x d H5, TD H5 x d → noL d = true → Item n d → But p H4 H5 → PotAt H5 p (m + 1 + (i + 1) * (1 + vc n)) → (fun (σ : L2.St) (H' : Hp) => ∃ u xs ds, σ = [some (V.ref p), some (V.int n), some (V.ref a), some (V.ref f), u] ∧ H' a = some (.lst somV) ∧ H' f = some (.lst xs) ∧ TDs H' xs ds ∧ noLs ds = true ∧ ds.length = i + 1 ∧ (∀ d ∈ ds, Item n d) ∧ PotAt H' p (m + 1 + (i + 1) * (1 + vc n)) ∧ But p H H') [some (V.ref p), some (V.int n), some (V.ref a), some (V.ref f), some (V.int (0 + (i : Int)))] (upd H5 f (.lst (xs ++ [x]))) := by
        intro x d H5 tx nx ix b5 hp5
        have hf5 := b5 _ _ hfp hf4
        have kt : ∀ b ys, H5 b = some (.tup ys) → upd H5 f (.lst (xs ++ [x])) b = some (.tup ys) := fun b ys q => by
          rw [upd_ne (fun y => by rw [y, hf5] at q; cases q)]; exact q
        have kt4 : ∀ b ys, H4 b = some (.tup ys) → H5 b = some (.tup ys) := fun b ys q => b5 _ _ (fun y => by
          obtain ⟨_, _, _, z, _⟩ := hp4
          rw [y, z] at q; cases q) q
        refine ⟨_, xs ++ [x], ds ++ [d], rfl, ?_, upd_same, ?_, by rw [noLs_append, nl4]; simp [noLs, nx], by simp [l4], ?_, ?_, ?_⟩
        · rw [upd_ne hfa.symm]; exact b5 _ _ hap ha4
        · exact tds_append ((t4.keepT kt4 _ _ nl4).keepT kt _ _ nl4) (.cons (tx.keepT kt _ _ nx) .nil)
        · intro e he
          rcases List.mem_append.mp he with he | he
          · exact it4 e he
          · rw [List.mem_singleton.mp he]; exact ix
        · obtain ⟨o1, s1, c1, e1, e2⟩ := hp5
          exact ⟨o1, s1, c1, by rw [upd_ne hfp.symm]; exact e1, e2⟩
        · intro b o ne e
          rw [upd_ne (ne_of_none e hfn)]
          exact b5 _ _ ne (b4 _ _ ne e)
      have room : m + 1 + (i + 1) * (1 + vc n) ≤ m + vcost n := by
        have : (i + 1) * (1 + vc n) ≤ 3 * (1 + vc n) := Nat.mul_le_mul_right _ (by omega)
        omega
      have e1 : (i + 1) * (1 + vc n) = i * (1 + vc n) + (1 + vc n) := Nat.succ_mul _ _
      have small : xs.length < sizeLine := by
        have : xs.length = ds.length := tds_length t4
        exact small20' (by omega)
      have offer : ∀ x H5, x ∈ somV → But p H4 H5 → PotAt H5 p (m + 1 + i * (1 + vc n) + 1 + 1) → rAppend (.ref f) [x] H5 (fun x H' => (fun (σ : L2.St) (H' : Hp) => ∃ u xs ds, σ = [some (V.ref p), some (V.int n), some (V.ref a), some (V.ref f), u] ∧ H' a = some (.lst somV) ∧ H' f = some (.lst xs) ∧ TDs H' xs ds ∧ noLs ds = true ∧ ds.length = i + 1 ∧ (∀ d ∈ ds, Item n d) ∧ PotAt H' p (m + 1 + (i + 1) * (1 + vc n)) ∧ But p H H') [some (V.ref p), some (V.int n), some (V.ref a), some (V.ref f), some (V.int (0 + (i : Int)))] H') := by
        intro x H5 hx b5 hp5
        obtain ⟨d, hd, tx⟩ := som_td (H := H5) hx
        refine ⟨f, xs, x, rfl, rfl, b5 _ _ hfp hf4, small, put x d H5 tx ?_ (.inl hd) b5 (hp5.mono (by omega))⟩
        unfold somL at hd
        simp only [List.mem_cons, List.not_mem_nil, or_false] at hd
        rcases hd with rfl | rfl | rfl | rfl | rfl | rfl | rfl | rfl | rfl | rfl <;> rfl
      refine ⟨.ref f, rfl, .inl ⟨rfl, _, SqL.of hf4⟩, .int n, rfl, n, 0, rfl, rfl, _, rfl, ite2 (fun e => ?_) (fun e => ?_)⟩
      · have e : (0 : Int) < n := of_decide_eq_true e
        obtain ⟨n', rfl⟩ : ∃ n', n = n' + 1 := ⟨n - 1, by omega⟩
        refine ⟨.ref p, rfl, p, 2, _, rfl, hp4, by omega, by decide, by decide, fun i2 H5 i0 i1 b5 hp5 => ⟨rfl, _, rfl, ite2 (fun z => ?_) (fun z => ?_)⟩⟩
        · have hn' : m + 1 + i * (1 + vc (n' + 1)) + 1 + vcost n' ≤ m + 1 + (i + 1) * (1 + vc (n' + 1)) := by
            rw [e1]
            show _ ≤ m + 1 + (i * (1 + vc (n' + 1)) + (1 + vcost n'))
            omega
          refine ⟨.ref p, rfl, .int (n' + 1 : Nat), rfl, (n' + 1 : Nat), 1, rfl, rfl, n', rfl, p, _, (by show [V.ref p, V.int (((n' + 1 : Nat) : Int) - 1)] = _; rw [show ((n' + 1 : Nat) : Int) - 1 = (n' : Int) by omega]), hp5, by omega, fun v xs2 ds2 H6 nv ev t6 val6 b6 hp6 => ?_⟩
          have b46 := b5.trans b6
          exact ⟨f, xs, .ref v, rfl, rfl, b46 _ _ hfp hf4, small, put (.ref v) (.tuple ds2) H6 (.tup ev t6) (val_noL n' _ val6) (.inr ⟨n', rfl, val6⟩) b46 (hp6.mono hn')⟩
        · refine ⟨.ref p, rfl, .ref a, rfl, p, a, somV, _, rfl, hp5, by omega, hap, b5.seqL hap (SqL.of ha4), by decide, by decide, fun x H6 hx b6 hp6 => offer x H6 hx (b5.trans b6) hp6⟩
      · refine ⟨.ref p, rfl, .ref a, rfl, p, a, somV, _, rfl, hp4, by omega, hap, SqL.of ha4, by decide, by decide, fun x H5 hx b5 hp5 => offer x H5 hx b5 (hp5.mono (by omega))⟩
    · rintro σ H4 ⟨u, xs, ds, rfl, ha4, hf4, t4, nl4, l4, it4, hp4, b4⟩
      have room : m + 1 + j.toNat * (1 + vc n) ≤ m + vcost n := by
        have : j.toNat * (1 + vc n) ≤ 3 * (1 + vc n) := Nat.mul_le_mul_right _ (by omega)
        omega
      refine ⟨.ref f, rfl, f, xs, rfl, .inl ⟨SqL.of hf4, fun l hl => ?_⟩⟩
      have hlp : l ≠ p := hp4.ne hl
      have s4 : Same H4 (upd H4 l (.tup xs)) := same_upd hl
      refine q l xs ds _ ?_ upd_same (t4.same s4) (val_of (by omega) it4) (b4.trans (But.of s4)) ((hp4.same s4).mono room)
      cases hh : H l with
      | none => rfl
      | some o => rw [b4 _ _ hlp hh] at hl; cases hl
theorem ok_value (T : Txt P K mg A D) : ∀ n : Nat, n ≤ 5 → FnG P w K mg base CX0 (n + 3) (A 16) (D 16) ["pot", "deep"] (spValue n)
  | 0, h => value_step T 2 0 (Nat.le_refl _) h ⟨fun vs H Q E ⟨m, e, _⟩ => absurd e (by omega), fun A outer s H args us vs Q E _ _ _ _ _ ⟨m, e, _⟩ => absurd e (by omega)⟩
  | n + 1, h => by
    have F := ok_value T n (by omega)
    refine value_step T (n + 3) (n + 1) (by omega) h ⟨fun vs H Q E ⟨m', e, h⟩ => F.len vs H Q E (by rw [show n = m' by omega]; exact h), fun A outer s H args us vs Q E h1 h2 h3 h4 h5 ⟨m', e, h⟩ => F.run A outer s H args us vs Q E h1 h2 h3 h4 h5 (by rw [show n = m' by omega]; exact h)⟩
end
end My

namespace My
open PySem PySem.Spec PyProof.Rows L2
/-! ### a deep value -/
def deepL : List PyData := [.str "p", .int 3, .none]
def DeepD : Nat → PyData → Prop
  | 0, d => ∃ e ∈ deepL, d = .tuple [e]
  | n + 1, d => ∃ e, DeepD n e ∧ (d = .tuple [e] ∨ d = .tuple [.int 1, e])
def deepV : List V := [.str "p", .int 3, .non]
theorem deep_td {H : Hp} {x : V} (h : x ∈ deepV) : ∃ d, d ∈ deepL ∧ TD H x d := by
  unfold deepV at h
  simp only [List.mem_cons, List.not_mem_nil, or_false] at h
  rcases h with rfl | rfl | rfl
  · exact ⟨.str "p", by unfold deepL; simp, .str _ (by decide)⟩
  · exact ⟨_, by unfold deepL; simp, .int _⟩
  · exact ⟨_, by unfold deepL; simp, .non⟩
theorem deep_noL : ∀ (n : Nat) (d : PyData), DeepD n d → noL d = true
  | 0, d, ⟨e, he, z⟩ => by
    subst z
    unfold deepL at he
    simp only [List.mem_cons, List.not_mem_nil, or_false] at he
    rcases he with rfl | rfl | rfl <;> rfl
  | n + 1, d, ⟨e, he, z⟩ => by
    have ih := deep_noL n e he
    rcases z with rfl | rfl
    · show (noL e && true) = true
      rw [ih]; rfl
    · show (true && (noL e && true)) = true
      rw [ih]; rfl
theorem TD.ref {H : Hp} {v : V} {d : PyData} {n : Nat} (h : TD H v d) (z : DeepD n d) : ∃ a xs ds, v = .ref a ∧ d = .tuple ds ∧ H a = some (.tup xs) ∧ TDs H xs ds := by
  have : ∃ ds, d = .tuple ds := by
    cases n with
    | zero => obtain ⟨e, _, r⟩ := z; exact ⟨_, r⟩
    | succ n =>
      obtain ⟨e, _, r | r⟩ := z <;> exact ⟨_, r⟩
  obtain ⟨ds, rfl⟩ := this
  cases h with
  | tup e r => exact ⟨_, _, _, rfl, rfl, e, r⟩
theorem PotAt.kt {H H' : Hp} {p : Addr} {n : Nat} (h : PotAt H p n) (b : But p H H') : ∀ (a : Addr) xs, H a = some (.tup xs) → H' a = some (.tup xs) := fun a xs e => b _ _ (fun z => by
  obtain ⟨_, _, _, y, _⟩ := h
  rw [z, y] at e; cases e) e
/-- _law_deep(pot, many) -/
def spDeep : Sp := fun vs H Q _ => ∃ (p : Addr) (m n : Nat), vs = [.ref p, .int (n + 1 : Nat)] ∧ n ≤ 20 ∧ PotAt H p m ∧ m + n + 1 < 2 ^ 60 ∧
  ∀ v d H', TD H' v d → DeepD n d → But p H H' → PotAt H' p (m + n + 1) → Q v H'
section
variable {P : Program} {w : World} {K : PySem.W.Frag} {mg : Str → Option Value} {base : Heap} {A : Nat → Addr} {D : Nat → FuncData}
theorem ok_deep (T : Txt P K mg A D) : FnG P w K mg base CX0 3 (A 17) (D 17) ["pot", "many"] spDeep := by
  have G__law_take := ok_take (P := P) (w := w) (base := base) T
  have G__law_of := ok_of (P := P) (w := w) (base := base) T
  refine def_ok0 T.F__law_deep sc__law_deep (fun vs H Q E h => ?_) (fun cdv Ar outer s H vs Q E hr hG h => ?_)
  · obtain ⟨p, m, n, rfl, _⟩ := h; rfl
  · obtain ⟨p, m, n, rfl, hn, hp, hm, q⟩ := h
    refine ⟨_, (pss_cons (ps_set (i := 2) sc__law_deep.nd rfl (Or.inl rfl) (pe_tup (pa_cons (pe_cg G__law_of (hr.mono (by first | decide | omega)) hG (by rfl) T.g__law_of T.F__law_of.kp T.b__law_of pass0 (pa_cons (pv 0) (pa_cons (pe_lst (pa_cons pe_str (pa_cons pe_int (pa_cons pe_non pa_nil)))) pa_nil))) pa_nil)))
      (pss_cons (ps_for (by first | exact PassesOwn.never | exact PassesOwn.leaving | exact L2.passes_of rfl) rfl (pi_range1 rfl T.n_range (pa_cons (pe_op op_sub (pv 1) pe_int) pa_nil)) (pg_name (i := 3) sc__law_deep.nd rfl (Or.inl rfl)) (pss_one (ps_set (i := 2) sc__law_deep.nd rfl (Or.inl rfl) (pe_ifExp (pt_cmpR op_eq (pe_cg G__law_take (hr.mono (by first | decide | omega)) hG (by rfl) T.g__law_take T.F__law_take.kp T.b__law_take pass0 (pa_cons (pv 0) (pa_cons pe_int pa_nil))) pe_int (nomark _)) (pe_tup (pa_cons (pv 2) pa_nil)) (pe_tup (pa_cons pe_int (pa_cons (pv 2) pa_nil)))))))
      (pss_one (ps_ret (pv 2))))), ?_⟩
    refine ⟨.ref p, rfl, by decide, fun a ha => ?_⟩
    have hap : a ≠ p := hp.ne ha
    have hp1 := hp.same (same_upd (o := .lst deepV) ha)
    refine ⟨p, a, deepV, m, rfl, hp1, by omega, hap, SqL.of upd_same, by decide, by decide, fun x H2 hx b2 hp2 => ?_⟩
    obtain ⟨d0, hd0, t0⟩ := deep_td (H := H2) hx
    refine ⟨(by show 1 ≤ sizeLine; decide), fun t ht => ?_⟩
    have htp : t ≠ p := hp2.ne ht
    have s3 : Same H2 (upd H2 t (.tup [x])) := same_upd ht
    have en : (((n + 1 : Nat) : Int) - 1).toNat = n := by omega
    refine ⟨.int (n + 1 : Nat), rfl, (n + 1 : Nat), 1, rfl, rfl, _, rfl, by omega, by omega, for_range (fun i σ H' => ∃ v d u, σ = [some (.ref p), some (.int (n + 1 : Nat)), some v, u] ∧ TD H' v d ∧ DeepD i d ∧ PotAt H' p (m + 1 + i) ∧ But p H H') ⟨.ref t, .tuple [d0], none, rfl, .tup upd_same (.cons (t0.same s3) .nil), ⟨d0, hd0, rfl⟩, hp2.same s3, ((But.of (same_upd ha)).trans b2).trans (But.of s3)⟩ ?_ ?_⟩
    · rintro i σ H4 hi ⟨v, d, u, rfl, t4, dp, hp4, b4⟩
      have nl := deep_noL i d dp
      refine ⟨.ref p, rfl, p, 2, _, rfl, hp4, by omega, by decide, by decide, fun i2 H5 i0 i1 b5 hp5 => ⟨rfl, _, rfl, ite2 (fun z => ?_) (fun z => ?_)⟩⟩
      · refine ⟨v, rfl, (by show 1 ≤ sizeLine; decide), fun l hl => ?_⟩
        have s6 : Same H5 (upd H5 l (.tup [v])) := same_upd hl
        exact ⟨.ref l, .tuple [d], _, rfl, .tup upd_same (.cons ((t4.keepT (hp4.kt b5) _ _ nl).same s6) .nil), ⟨d, dp, .inl rfl⟩, hp5.same s6, (b4.trans b5).trans (But.of s6)⟩
      · refine ⟨v, rfl, (by show 2 ≤ sizeLine; decide), fun l hl => ?_⟩
        have s6 : Same H5 (upd H5 l (.tup [.int 1, v])) := same_upd hl
        exact ⟨.ref l, .tuple [.int 1, d], _, rfl, .tup upd_same (.cons (.int 1) (.cons ((t4.keepT (hp4.kt b5) _ _ nl).same s6) .nil)), ⟨d, dp, .inr rfl⟩, hp5.same s6, (b4.trans b5).trans (But.of s6)⟩
    · rintro σ H4 ⟨v, d, u, rfl, t4, dp, hp4, b4⟩
      rw [en] at dp hp4
      exact ⟨v, rfl, q v d H4 t4 dp b4 (hp4.mono (by omega))⟩
end
end My

namespace My
open PySem PySem.Spec PyProof.Rows L2
/-! ### how great the values are -/
def Bd (k N : Nat) (d : PyData) : Prop := okD d = true ∧ d.showable = true ∧ d.hasDict = false ∧ d.depth ≤ k ∧ sz d ≤ N ∧ (textOf d).length ≤ N ∧ d.shown.length ≤ N
def Bds (k N : Nat) (ds : List PyData) : Prop := okDs ds = true ∧ PyData.showableAll ds = true ∧ PyData.hasDictAll ds = false ∧ PyData.depthAll ds ≤ k ∧ szs ds ≤ N ∧ ((textsOf ds).map (·.length)).sum ≤ N ∧ ((PyData.shownAll ds).map (·.length)).sum ≤ N
theorem Bd.mono {k N k' N' : Nat} {d : PyData} (h : Bd k N d) (a : k ≤ k') (b : N ≤ N') : Bd k' N' d := by
  obtain ⟨h1, h2, h3, h4, h5, h6, h7⟩ := h
  exact ⟨h1, h2, h3, by omega, by omega, by omega, by omega⟩
theorem bds_nil (k : Nat) : Bds k 0 [] := ⟨rfl, rfl, rfl, Nat.zero_le _, Nat.le_refl _, Nat.le_refl _, Nat.le_refl _⟩
theorem bds_cons {k N M : Nat} {d : PyData} {ds : List PyData} (h : Bd k N d) (r : Bds k M ds) : Bds k (N + M) (d :: ds) := by
  obtain ⟨h1, h2, h3, h4, h5, h6, h7⟩ := h
  obtain ⟨r1, r2, r3, r4, r5, r6, r7⟩ := r
  refine ⟨by simp only [okDs, h1, r1]; rfl, by simp only [PyData.showableAll, h2, r2]; rfl, by simp only [PyData.hasDictAll, h3, r3]; rfl, by simp only [PyData.depthAll]; omega, by simp only [szs]; omega, ?_, ?_⟩
  · simp only [textsOf, List.map_cons, List.sum_cons]; omega
  · simp only [PyData.shownAll, List.map_cons, List.sum_cons]; omega
theorem textsOf_length (ds : List PyData) : (textsOf ds).length = ds.length := by rw [textsOf_map, List.length_map]
theorem shownAll_len : ∀ ds : List PyData, (PyData.shownAll ds).length = ds.length
  | [] => rfl
  | d :: ds => by simp only [PyData.shownAll, List.length_cons, shownAll_len ds]
theorem bd_tup {k N : Nat} {ds : List PyData} (h : Bds k N ds) (l : ds.length ≤ 3) : Bd (k + 1) (N + 12) (.tuple ds) := by
  obtain ⟨h1, h2, h3, h4, h5, h6, h7⟩ := h
  refine ⟨h1, by simp only [PyData.showable, h2], by simp only [PyData.hasDict, h3], by simp only [PyData.depth]; omega, by simp only [sz]; omega, ?_, ?_⟩
  · show (brk (textsOf ds)).length ≤ _
    rw [brk_len]
    by_cases e : textsOf ds = []
    · rw [e, TL.join_eq]
      show (0 : Nat) + 2 ≤ _
      omega
    · have := join_len _ e
      rw [textsOf_length] at this
      omega
  · rw [show (PyData.tuple ds).shown = tupleText (PyData.shownAll ds) by simp only [PyData.shown]]
    have := tupleText_len_le (PyData.shownAll ds)
    rw [shownAll_len] at this
    omega
theorem bds_all {k N : Nat} : ∀ ds : List PyData, (∀ d ∈ ds, Bd k N d) → Bds k (ds.length * N) ds
  | [], _ => by
    have := bds_nil k
    rw [List.length_nil, Nat.zero_mul]; exact this
  | d :: ds, h => by
    have := bds_cons (h d List.mem_cons_self) (bds_all ds fun e he => h e (List.mem_cons_of_mem _ he))
    rw [List.length_cons, Nat.succ_mul, Nat.add_comm]; exact this
theorem Bds.mono {k N N' : Nat} {ds : List PyData} (h : Bds k N ds) (b : N ≤ N') : Bds k N' ds := by
  obtain ⟨h1, h2, h3, h4, h5, h6, h7⟩ := h
  exact ⟨h1, h2, h3, by omega, by omega, by omega, by omega⟩
theorem bd_tup3 {k N : Nat} {ds : List PyData} (h : ∀ d ∈ ds, Bd k N d) (l : ds.length ≤ 3) : Bd (k + 1) (3 * N + 12) (.tuple ds) :=
  bd_tup ((bds_all ds h).mono (Nat.mul_le_mul_right _ l)) l
theorem som_bd {d : PyData} (hd : d ∈ somL) : Bd 1 40 d := by
  unfold somL at hd
  simp only [List.mem_cons, List.not_mem_nil, or_false] at hd
  unfold Bd
  rcases hd with rfl | rfl | rfl | rfl | rfl | rfl | rfl | rfl | rfl | rfl <;> decide +kernel
theorem dl_bd {d : PyData} (hd : d ∈ deepL) : Bd 1 40 d := by
  unfold deepL at hd
  simp only [List.mem_cons, List.not_mem_nil, or_false] at hd
  unfold Bd
  rcases hd with rfl | rfl | rfl <;> decide +kernel
def bdN : Nat → Nat
  | 0 => 40
  | n + 1 => 3 * bdN n + 12
theorem bdN_40 : ∀ n, 40 ≤ bdN n
  | 0 => Nat.le_refl _
  | n + 1 => by have := bdN_40 n; simp only [bdN]; omega
theorem val_bd : ∀ (n : Nat) (d : PyData), Val n d → Bd (n + 2) (bdN (n + 1)) d
  | 0, .tuple ds, h => bd_tup3 (fun d hd => som_bd (h.2 d hd)) h.1
  | n + 1, .tuple ds, h => bd_tup3 (fun d hd => (h.2 d hd).elim (fun z => (som_bd z).mono (by omega) (bdN_40 _)) fun v => val_bd n d v) h.1
theorem one_bd (k : Nat) : Bd (k + 1) 40 (.int 1) := by
  have : Bd 1 40 (.int 1) := by unfold Bd; decide +kernel
  exact this.mono (by omega) (Nat.le_refl _)
theorem deep_bd : ∀ (n : Nat) (d : PyData), DeepD n d → Bd (n + 2) (52 * n + 52) d
  | 0, d, ⟨e, he, z⟩ => by
    subst z
    exact bd_tup (bds_cons (dl_bd he) (bds_nil _)) (by show 1 ≤ 3; decide)
  | n + 1, d, ⟨e, he, z⟩ => by
    have ih := deep_bd n e he
    rcases z with rfl | rfl
    · exact (bd_tup (bds_cons ih (bds_nil _)) (by show 1 ≤ 3; decide)).mono (Nat.le_refl _) (by omega)
    · exact (bd_tup (bds_cons (one_bd _) (bds_cons ih (bds_nil _))) (by show 2 ≤ 3; decide)).mono (Nat.le_refl _) (by omega)
/-! ### how deep they are -/
theorem som_part {d : PyData} (hd : d ∈ somL) : partD d = true := by
  unfold somL at hd
  simp only [List.mem_cons, List.not_mem_nil, or_false] at hd
  rcases hd with rfl | rfl | rfl | rfl | rfl | rfl | rfl | rfl | rfl | rfl <;> decide +kernel
theorem nest_mono : ∀ (n : Nat) (d : PyData), nest n d = true → ∀ m, n ≤ m → nest m d = true
  | 0, d, h, _, _ => by cases d <;> cases h
  | n + 1, d, h, m, l => by
    obtain ⟨ds, rfl⟩ := nest_tup h
    obtain ⟨m, rfl⟩ : ∃ k, m = k + 1 := ⟨m - 1, by omega⟩
    have h2 : ds.all (fun d => partD d || nest n d) = true := h
    show ds.all (fun d => partD d || nest m d) = true
    rw [List.all_eq_true] at h2 ⊢
    intro e he
    have := h2 e he
    rw [Bool.or_eq_true] at this ⊢
    exact this.imp_right fun z => nest_mono n e z m (by omega)
theorem val_nest : ∀ (n : Nat) (d : PyData), Val n d → nest (n + 1) d = true
  | 0, .tuple ds, h => List.all_eq_true.mpr fun d hd => by rw [som_part (h.2 d hd)]; rfl
  | n + 1, .tuple ds, h => List.all_eq_true.mpr fun d hd => by
    rw [Bool.or_eq_true]
    exact (h.2 d hd).imp som_part fun v => val_nest n d v
theorem deep_tup {n : Nat} {d : PyData} (z : DeepD n d) : ∃ ds, d = .tuple ds := by
  cases n with
  | zero => obtain ⟨e, _, r⟩ := z; exact ⟨_, r⟩
  | succ n => obtain ⟨e, _, r | r⟩ := z <;> exact ⟨_, r⟩
theorem dl_part {d : PyData} (hd : d ∈ deepL) : partD d = true := by
  unfold deepL at hd
  simp only [List.mem_cons, List.not_mem_nil, or_false] at hd
  rcases hd with rfl | rfl | rfl <;> decide +kernel
theorem deep_nest : ∀ (n : Nat) (d : PyData), DeepD n d → ∀ k, nest k d = decide (n + 1 ≤ k)
  | 0, d, ⟨e, he, z⟩, k => by
    subst z
    cases k with
    | zero => rfl
    | succ k =>
      show ((partD e || nest k e) && true) = _
      rw [dl_part he]
      simp
  | n + 1, d, ⟨e, he, z⟩, k => by
    have ih := deep_nest n e he
    have np : partD e = false := by
      obtain ⟨ds, rfl⟩ := deep_tup he
      rfl
    cases k with
    | zero =>
      rcases z with rfl | rfl <;> simp [nest]
    | succ k =>
      rcases z with rfl | rfl
      · show ((partD e || nest k e) && true) = _
        rw [np, ih k]; simp
      · show ((partD (.int 1) || nest k (.int 1)) && ((partD e || nest k e) && true)) = _
        rw [np, ih k, show partD (.int 1) = true by decide +kernel]; simp
end My

namespace My
open PySem PySem.Spec PyProof.Rows L2 LamX
/-! ### lambda: g(x) -/
def scL (x g : Str) : Scope := { kind := .function, names := [(x, .free), (g, .globalImplicit)], isGenerator := false, isCoroutine := false, more := [] }
def noPar : Arguments := { posonlyargs := [], args := [], vararg := none, kwonlyargs := [], kw_defaults := [], kwarg := none, defaults := [] }
theorem lam1_ok {l : Lam} {x g : Str} {c : Addr} (hp : l.params = noPar) (hs : l.scope = scL x g) (hc : l.clo = [(x, c)]) : l.Ok := by
  have look : ∀ y d, l.clo.lookup y = some d → y = x := fun y d e => by
    rw [hc, List.lookup] at e
    split at e
    · rename_i z; exact eq_of_beq z
    · cases e
  refine ⟨by rw [hs]; rfl, by rw [hs]; rfl, by rw [hs]; rfl, fun y hy => ?_, fun y hy e => ?_, fun a b d e1 e2 => (look a d e1).trans (look b d e2).symm, ?_⟩
  · rw [hs] at hy
    rcases List.mem_cons.mp hy with rfl | hy
    · exact ⟨by simp, by simp⟩
    · rw [List.mem_singleton.mp hy]; exact ⟨by simp, by simp⟩
  · rw [hs] at hy
    rcases List.mem_cons.mp hy with rfl | hy
    · exact ⟨c, by rw [hc]; simp⟩
    · rw [List.mem_singleton.mp hy] at e; cases e
  · obtain ⟨q, pa, bo, sc, cl, pm, cc, ct⟩ := l
    cases hp
    rfl
theorem does1 {P : Program} {w : World} {K : PySem.W.Frag} {mg : Str → Option Value} {base : Heap} {l : Lam} {x g par : Str} {c f ga : Addr} {gd : FuncData} {sp : Sp} {H : Hp} {v : V} {p p2 p3 : Pos} {φ : V → Hp → Prop} {ψ : XK}
    (hp : l.params = noPar) (hs : l.scope = scL x g) (hc : l.clo = [(x, c)]) (hb : l.body = .Call (.Name g p) [.Name x p2] [] p3)
    (F : FnG P w K mg base (L2.CX P w) 15 ga gd [par] sp) (hg : mg g = some (.ref ga)) (hk : PySem.W.keepIn K (.ref ga) = true) (hB : L2.Binds K gd [par] []) (hne : (g == x) = false)
    (d1 : (g == ("__debug__" : Str)) = false) (d2 : (x == ("__debug__" : Str)) = false) (d3 : (x == ("__classdict__" : Str)) = false)
    (fz : Frozen l.S H) (hf : H f = some (frzP (FnObj l.fd))) (hcode : H l.c = some (CodeO l.c l.q)) (hv : ∃ o u, H c = some (frzP o) ∧ o.data = .cell (some u) ∧ RelV v u)
    (hsp : ∀ (Q : VK) (E : XK), (∀ u H', ((∀ b ∈ l.S, H' b = none) → φ u (refrz l.S H H')) → Q u H') → (∀ cls d H', ((∀ b ∈ l.S, H' b = none) → ψ cls d (refrz l.S H H')) → E cls d H') → sp [v] (thaw l.S H) Q E) : Does P w K mg base f H φ ψ := by
  have L := lam1_ok hp hs hc
  have look : ∀ y d, l.clo.lookup y = some d → y = x ∧ d = c := fun y d e => by
    rw [hc, List.lookup] at e
    split at e
    · rename_i z; exact ⟨eq_of_beq z, (Option.some.inj e).symm⟩
    · cases e
  refine ⟨spLam P w K mg base 15 [x] l f, ⟨l.fd, fn_lam L, hf, L.bind⟩, fun Q E hQ hE => ⟨rfl, fz, hf, hcode, [some v], ⟨rfl, fun y d e => ?_, fun i y z e1 e2 e3 => ?_⟩, fun A outer s hr hG => ⟨tCall sp [] (fun cls d H' => (∀ b ∈ l.S, H' b = none) → E cls d (refrz l.S H H')) (tCons (tVar 0) tNil), ?_, ?_⟩⟩⟩
  · obtain ⟨rfl, rfl⟩ := look y d e
    obtain ⟨o, u, h1, h2, _⟩ := hv
    exact ⟨o, some u, h1, h2⟩
  · obtain ⟨o, u, h1, h2, h3⟩ := hv
    cases i with
    | zero =>
      cases e1
      cases e2
      exact ⟨c, o, u, by rw [hc]; simp, h1, h2, h3⟩
    | succ i => cases e2
  · rw [hb]
    have vis : Vis l.scope x := .inr (.inr (by rw [hs]; simp [scL]))
    have gl : l.scope.names.lookup g = some .globalImplicit := by rw [hs]; simp [scL, List.lookup, hne]
    exact pe_cg (X := lamX P w K mg base [x] l f A outer s (thaw l.S H) (fun cls d H' => (∀ b ∈ l.S, H' b = none) → E cls d (refrz l.S H H'))) F hr hG gl hg hk hB (L2.passes_call (L2.takes_of rfl rfl rfl rfl) fun _ _ _ _ h => h) (pa_cons (pe_var rfl vis d2 d3) pa_nil) d1
  · exact ⟨v, rfl, hsp _ _ (fun u H' h z => hQ u _ (h z)) (fun cls d H' h z => hE cls d _ (h z))⟩
end My

namespace My
open PySem PySem.Spec PyProof.Rows L2 LamX
/-! ### lambda: t.append(g(x)) -/
def scL2 (x t g : Str) : Scope := { kind := .function, names := [(x, .free), (t, .free), (g, .globalImplicit)], isGenerator := false, isCoroutine := false, more := [] }
theorem lam2_look {l : Lam} {x t : Str} {c c2 : Addr} (hc : l.clo = [(t, c2), (x, c)]) : ∀ y d, l.clo.lookup y = some d → (y = t ∧ d = c2) ∨ (y = x ∧ d = c) := fun y d e => by
  rw [hc, List.lookup] at e
  split at e
  · rename_i z; exact .inl ⟨eq_of_beq z, (Option.some.inj e).symm⟩
  · rw [List.lookup] at e
    split at e
    · rename_i z; exact .inr ⟨eq_of_beq z, (Option.some.inj e).symm⟩
    · cases e
theorem lam2_ok {l : Lam} {x t g : Str} {c c2 : Addr} (hp : l.params = noPar) (hs : l.scope = scL2 x t g) (hc : l.clo = [(t, c2), (x, c)]) (hcc : c ≠ c2) (hxt : (x == t) = false) : l.Ok := by
  have look := lam2_look hc
  refine ⟨by rw [hs]; rfl, by rw [hs]; rfl, by rw [hs]; rfl, fun y hy => ?_, fun y hy e => ?_, fun a b d e1 e2 => ?_, ?_⟩
  · rw [hs] at hy
    rcases List.mem_cons.mp hy with rfl | hy
    · exact ⟨by simp, by simp⟩
    · rcases List.mem_cons.mp hy with rfl | hy
      · exact ⟨by simp, by simp⟩
      · rw [List.mem_singleton.mp hy]; exact ⟨by simp, by simp⟩
  · rw [hs] at hy
    rcases List.mem_cons.mp hy with rfl | hy
    · exact ⟨c, by rw [hc]; simp [List.lookup, hxt]⟩
    · rcases List.mem_cons.mp hy with rfl | hy
      · exact ⟨c2, by rw [hc]; simp⟩
      · rw [List.mem_singleton.mp hy] at e; cases e
  · rcases look a d e1 with ⟨a1, a2⟩ | ⟨a1, a2⟩ <;> rcases look b d e2 with ⟨b1, b2⟩ | ⟨b1, b2⟩
    · rw [a1, b1]
    · exact absurd (b2.symm.trans a2) hcc
    · exact absurd (a2.symm.trans b2) hcc
    · rw [a1, b1]
  · obtain ⟨q, pa, bo, sc, cl, pm, cc, ct⟩ := l
    cases hp
    rfl
theorem does2 {P : Program} {w : World} {K : PySem.W.Frag} {mg : Str → Option Value} {base : Heap} {l : Lam} {x t g par : Str} {c c2 f ga q : Addr} {gd : FuncData} {sp : Sp} {H : Hp} {v : V} {p p2 p3 p4 p5 p6 : Pos} {φ : V → Hp → Prop} {ψ : XK}
    (hp : l.params = noPar) (hs : l.scope = scL2 x t g) (hc : l.clo = [(t, c2), (x, c)]) (hcc : c ≠ c2) (hxt : (x == t) = false) (hb : l.body = .Call (.Attribute (.Name t p4) "append" p5) [.Call (.Name g p) [.Name x p2] [] p3] [] p6) (hpos : (p5.endLine == p6.line) = true)
    (F : FnG P w K mg base (L2.CX P w) 15 ga gd [par] sp) (hg : mg g = some (.ref ga)) (hk : PySem.W.keepIn K (.ref ga) = true) (hB : L2.Binds K gd [par] []) (hne : (g == x) = false) (hnt : (g == t) = false)
    (d1 : (g == ("__debug__" : Str)) = false) (d2 : (x == ("__debug__" : Str)) = false) (d3 : (x == ("__classdict__" : Str)) = false) (d4 : (t == ("__debug__" : Str)) = false) (d5 : (t == ("__classdict__" : Str)) = false)
    (hbase : ∀ e : Env, attributeBase (.Name t p4) "append" e (eval (.Name t p4) e) = eval (.Name t p4) e)
    (fz : Frozen l.S H) (hf : H f = some (frzP (FnObj l.fd))) (hcode : H l.c = some (CodeO l.c l.q)) (hv : ∃ o u, H c = some (frzP o) ∧ o.data = .cell (some u) ∧ RelV v u) (ht : ∃ o u, H c2 = some (frzP o) ∧ o.data = .cell (some u) ∧ RelV (.ref q) u) (hq : (thaw l.S H) q = some (.lst []))
    (hsp : ∀ (Q : VK) (E : XK), (∀ u H', H' q = some (.lst []) → ((∀ b ∈ l.S, (upd H' q (.lst [u])) b = none) → φ .non (refrz l.S H (upd H' q (.lst [u])))) → Q u H') → (∀ cls d H', ((∀ b ∈ l.S, H' b = none) → ψ cls d (refrz l.S H H')) → E cls d H') → sp [v] (thaw l.S H) Q E) : Does P w K mg base f H φ ψ := by
  have L := lam2_ok hp hs hc hcc hxt
  have look := lam2_look hc
  refine ⟨spLam P w K mg base 15 [x, t] l f, ⟨l.fd, fn_lam L, hf, L.bind⟩, fun Q E hQ hE => ⟨rfl, fz, hf, hcode, [some v, some (.ref q)], ⟨rfl, fun y d e => ?_, fun i y z e1 e2 e3 => ?_⟩, fun A outer s hr hG => ⟨tBM K "list" rAppend (tVar 1) (tCons (tCall sp [] (fun cls d H' => (∀ b ∈ l.S, H' b = none) → E cls d (refrz l.S H H')) (tCons (tVar 0) tNil)) tNil), ?_, ?_⟩⟩⟩
  · rcases look y d e with ⟨rfl, rfl⟩ | ⟨rfl, rfl⟩
    · obtain ⟨o, u, h1, h2, _⟩ := ht
      exact ⟨o, some u, h1, h2⟩
    · obtain ⟨o, u, h1, h2, _⟩ := hv
      exact ⟨o, some u, h1, h2⟩
  · match i, e1, e2 with
    | 0, e1, e2 =>
      obtain ⟨o, u, h1, h2, h3⟩ := hv
      cases e1
      cases e2
      exact ⟨c, o, u, by rw [hc]; simp [List.lookup, hxt], h1, h2, h3⟩
    | 1, e1, e2 =>
      obtain ⟨o, u, h1, h2, h3⟩ := ht
      cases e1
      cases e2
      exact ⟨c2, o, u, by rw [hc]; simp, h1, h2, h3⟩
  · rw [hb]
    have vx : Vis l.scope x := .inr (.inr (by rw [hs]; simp [scL2]))
    have vt : Vis l.scope t := .inr (.inr (by
      have : (t == x) = false := by rw [beq_eq_false_iff_ne] at hxt ⊢; exact hxt.symm
      rw [hs]; simp [scL2, List.lookup, this]))
    have gl : l.scope.names.lookup g = some .globalImplicit := by rw [hs]; simp [scL2, List.lookup, hne, hnt]
    exact pe_bm (X := lamX P w K mg base [x, t] l f A outer s (thaw l.S H) (fun cls d H' => (∀ b ∈ l.S, H' b = none) → E cls d (refrz l.S H H'))) PySem.F.plainAttrs_list PySem.F.slot_list_append PySem.F.type_list_append mt_append (pe_var rfl vt d4 d5)
      (pa_cons (pe_cg F hr hG gl hg hk hB (L2.passes_call (L2.takes_of rfl rfl rfl rfl) fun _ _ _ _ h => h) (pa_cons (pe_var rfl vx d2 d3) pa_nil) d1) pa_nil) (hbase := hbase _) (hline := hpos)
  · refine ⟨.ref q, rfl, .inl ⟨rfl, _, SqL.of hq⟩, v, rfl, hsp _ _ (fun u H' hH h => ⟨q, [], u, rfl, rfl, hH, (by show 0 < sizeLine; decide), fun z => hQ _ _ (h z)⟩) (fun cls d H' h z => hE cls d _ (h z))⟩
end My

namespace My
open PySem PySem.Spec PyProof.Rows L2 LamX
/-! ### what a lambda that is refused, or caught, comes to -/
def Refuses (C : Addr) (sp : Sp) (v : V) (H : Hp) : Prop := ∀ (Q : VK) (E : XK), (∀ dd H', Same H H' → H' dd = none → E (.ref C) (some dd) (upd H' dd (.xd [("value", v)]))) → sp [v] H Q E
theorem refuses_paper {C : Addr} {v : V} {d : PyData} {H : Hp} (h : ItD H v d) (hs : sz d < 2 ^ 20) (hn : nest 12 d = false) : Refuses C (spPaper C) v H := fun Q E k =>
  ⟨v, d, rfl, h, hs, (fun z => Bool.noConfusion (z.symm.trans hn)), fun _ => k⟩
theorem refuses_read {C : Addr} {v : V} {H : Hp} (h : Known H v) (hn : ∀ s, v = .str s → s.length < 2 ^ 19 ∧ readP s = none) : Refuses C (spRead C) v H := fun Q E k =>
  ⟨v, rfl, h, (fun s e => ⟨(hn s e).1, fun d z => by rw [(hn s e).2] at z; cases z⟩), fun _ => k⟩
section
variable {N : List Str} {sc : Scope} {clo : List (Str × Addr)} {σ : L2.St} {H H3 : Hp}
theorem FrzN.thaw (F : FrzN N sc clo σ H H3) : thaw (clo.map (·.2)) H3 = H := funext fun b => by
  by_cases hb : b ∈ clo.map (·.2)
  · rw [thaw_in hb, F.was b hb]
  · rw [thaw_out hb, F.out b hb]
theorem FrzN.kept (F : FrzN N sc clo σ H H3) {b : Addr} {o : HO} (e : H b = some o) : b ∉ clo.map (·.2) := fun hb => by rw [F.was b hb] at e; cases e
theorem FrzN.at3 (F : FrzN N sc clo σ H H3) {b : Addr} {o : HO} (e : H b = some o) : H3 b = some o := by rw [F.out b (F.kept e)]; exact e
/-- what is known where the lambda ends, and at its caller -/
theorem FrzN.back (F : FrzN N sc clo σ H H3) {H' H4 : Hp} (s : Same H H') (s4 : Same (refrz (clo.map (·.2)) H3 H') H4) : Same H (My.thaw (clo.map (·.2)) H4) := fun b o e => by
  rw [thaw_out (F.kept e)]
  refine s4 b o ?_
  rw [refrz_out (F.kept e)]
  exact s b o e
end
section
variable {P : Program} {w : World} {K : PySem.W.Frag} {mg : Str → Option Value} {base : Heap} {C : Addr} {N : List Str} {sc : Scope} {σ : L2.St} {H H3 : Hp} {l : Lam} {x g par : Str} {c f ga : Addr} {gd : FuncData} {sp : Sp} {v : V} {p p2 p3 : Pos}
theorem refused1 (F : FrzN N sc l.clo σ H H3) (hp : l.params = noPar) (hs : l.scope = scL x g) (hc : l.clo = [(x, c)]) (hb : l.body = .Call (.Name g p) [.Name x p2] [] p3)
    (G : FnG P w K mg base (L2.CX P w) 15 ga gd [par] sp) (hg : mg g = some (.ref ga)) (hk : PySem.W.keepIn K (.ref ga) = true) (hB : L2.Binds K gd [par] []) (hne : (g == x) = false)
    (d1 : (g == ("__debug__" : Str)) = false) (d2 : (x == ("__debug__" : Str)) = false) (d3 : (x == ("__classdict__" : Str)) = false)
    (hf : H f = some (frzP (FnObj l.fd))) (hcode : H l.c = some (CodeO l.c l.q)) {i : Nat} (hi : N[i]? = some x) (hv : σ[i]? = some (some v)) (vis : Vis sc x)
    (R : Refuses C sp v H) (Sh : Shown K H v) {Q : VK} {E : XK} (k : ∀ H5, Same H H5 → Q (.bl true) H5) : spRefused P w K mg base C [.ref f, v] H3 (fun u H4 => Q u (thaw l.S H4)) E := by
  have hcl : l.clo.lookup x = some c := by rw [hc]; simp
  refine ⟨f, v, rfl, does1 hp hs hc hb G hg hk hB hne d1 d2 d3 F.froz (F.at3 hf) (F.at3 hcode) (F.val i x v hi hv vis c hcl) fun Q1 E1 _ hE => ?_⟩
  rw [F.thaw]
  refine R _ _ fun dd H' s' n' => hE _ _ _ fun z => ?_
  have hdd : dd ∉ l.S := fun h => by have := z dd h; rw [upd_same] at this; cases this
  have s2 := s'.trans (same_upd (o := .xd [("value", v)]) n')
  have s3 : Same H (refrz l.S H3 (upd H' dd (.xd [("value", v)]))) := fun b o e => by rw [refrz_out (F.kept e)]; exact s2 b o e
  refine ⟨rfl, dd, rfl, by rw [refrz_out hdd, upd_same], Sh.same s3, fun H2 sm => k _ (F.back s2 sm)⟩
theorem thaw_refrz {S : List Addr} {H H' : Hp} (h : ∀ b ∈ S, H' b = none) : thaw S (refrz S H H') = H' := funext fun b => by
  by_cases hb : b ∈ S
  · rw [thaw_in hb, h b hb]
  · rw [thaw_out hb, refrz_out hb]
/-- told.append(read_paper(other)), caught -/
theorem caught2 {L q : Addr} {t : Str} {c2 : Addr} {s : Str} {p4 p5 p6 : Pos} (F : FrzN N sc l.clo σ H H3) (hp : l.params = noPar) (hs : l.scope = scL2 x t g) (hc : l.clo = [(t, c2), (x, c)]) (hcc : c ≠ c2) (hxt : (x == t) = false) (hb : l.body = .Call (.Attribute (.Name t p4) "append" p5) [.Call (.Name g p) [.Name x p2] [] p3] [] p6) (hpos : (p5.endLine == p6.line) = true)
    (G : FnG P w K mg base (L2.CX P w) 15 ga gd [par] (spRead C)) (hg : mg g = some (.ref ga)) (hk : PySem.W.keepIn K (.ref ga) = true) (hB : L2.Binds K gd [par] []) (hne : (g == x) = false) (hnt : (g == t) = false)
    (d1 : (g == ("__debug__" : Str)) = false) (d2 : (x == ("__debug__" : Str)) = false) (d3 : (x == ("__classdict__" : Str)) = false) (d4 : (t == ("__debug__" : Str)) = false) (d5 : (t == ("__classdict__" : Str)) = false)
    (hbase : ∀ e : Env, attributeBase (.Name t p4) "append" e (eval (.Name t p4) e) = eval (.Name t p4) e)
    (hf : H f = some (frzP (FnObj l.fd))) (hcode : H l.c = some (CodeO l.c l.q)) {i j : Nat} (hi : N[i]? = some x) (hv : σ[i]? = some (some (.str s))) (vis : Vis sc x) (hj : N[j]? = some t) (hvt : σ[j]? = some (some (.ref q))) (vist : Vis sc t)
    (hq : H q = some (.lst [])) (hl : s.length < 2 ^ 19) (hx : PySem.W.exmOne K (.ref C) (.ref L) = some true) {Q : VK} {E : XK}
    (k1 : ∀ d u H', readP s = some d → Same H H' → TD H' u d → noL d = true → Q .non (upd H' q (.lst [u])))
    (k0 : readP s = none → ∀ a H4, Same H H4 → Q (.ref a) H4) : spCaught P w K mg base L [.ref f] H3 (fun u H4 => Q u (thaw l.S H4)) E := by
  have hcl : l.clo.lookup x = some c := by rw [hc]; simp [List.lookup, hxt]
  have hct : l.clo.lookup t = some c2 := by rw [hc]; simp
  refine ⟨f, rfl, does2 (q := q) hp hs hc hcc hxt hb hpos G hg hk hB hne hnt d1 d2 d3 d4 d5 hbase F.froz (F.at3 hf) (F.at3 hcode) (F.val i x _ hi hv vis c hcl) (F.val j t _ hj hvt vist c2 hct) (by rw [F.thaw]; exact hq) fun Q1 E1 hQ hE => ?_⟩
  rw [F.thaw]
  refine ⟨.str s, rfl, .str s, (fun y e => ?_), fun hn dd H' s' n' => hE _ _ _ fun z => ⟨hx, fun a ha => ?_⟩⟩
  · cases e
    refine ⟨hl, fun d hd u H' s' td nl => hQ u H' (s' _ _ hq) fun z => ?_⟩
    show Q .non (thaw l.S (refrz l.S H3 (upd H' q (.lst [u]))))
    rw [thaw_refrz z]
    exact k1 d u H' hd s' td nl
  · have s2 := s'.trans (same_upd (o := .xd [("value", .str s)]) n')
    exact k0 (hn s rfl) a _ (F.back s2 (same_upd ha))
end
end My

namespace My
open PySem PySem.Spec PyProof.Rows L2 LamX
theorem _root_.LamX.ExtN.ofSame {H H' : Hp} (s : Same H H') : ExtN H H' := fun b o e _ => s b o e
theorem _root_.LamX.ExtN.seqS {H H' H2 : Hp} (e : ExtN H H') (s : Same H' H2) : ExtN H H2 := fun b o h n => s b o (e b o h n)
theorem _root_.LamX.ExtN.lst {H H' : Hp} (e : ExtN H H') {a : Addr} {xs : List V} (h : H a = some (.lst xs)) : H' a = some (.lst xs) := e a _ h fun ps z => by cases z
theorem _root_.LamX.ExtN.tup {H H' : Hp} (e : ExtN H H') {a : Addr} {xs : List V} (h : H a = some (.tup xs)) : H' a = some (.tup xs) := e a _ h fun ps z => by cases z
theorem TD.extN {H H' : Hp} {v : V} {d : PyData} (h : TD H v d) (e : ExtN H H') : TD H' v d := h.keep (fun _ _ z => e.lst z) (fun _ _ z => e.tup z) d v
theorem NoTup.extN {H H' : Hp} {x : V} (k : NoTup H x) (s : ExtN H H') : NoTup H' x := by
  cases k with
  | non => exact .non
  | bl b => exact .bl b
  | int i => exact .int i
  | str z => exact .str z
  | lst e => exact .lst (s.lst e)
  | dct e => exact .dct (s _ _ e fun ps z => by cases z)
theorem ItD.extN {H H' : Hp} {v : V} {d : PyData} (h : ItD H v d) (s : ExtN H H') : ItD H' v d := by
  rcases h with h | ⟨h, e⟩
  · exact .inl (h.extN s)
  · exact .inr ⟨h.extN s, e⟩
theorem Known.extN {H H' : Hp} {x : V} (k : Known H x) (s : ExtN H H') : Known H' x := by
  cases k with
  | non => exact .non
  | bl b => exact .bl b
  | int i => exact .int i
  | str z => exact .str z
  | lst e => exact .lst (s.lst e)
  | tup e => exact .tup (s.tup e)
  | dct e => exact .dct (s _ _ e fun ps z => by cases z)
theorem Shown.extN {K : PySem.W.Frag} {H H' : Hp} {v : V} (h : Shown K H v) (s : ExtN H H') : Shown K H' v := by
  rcases h with ⟨d, t, r⟩ | ⟨a, e, h⟩
  · exact .inl ⟨d, t.extN s, r⟩
  · exact .inr ⟨a, e, s _ _ h fun ps z => by cases z⟩
theorem PotAt.extN {H H' : Hp} {p : Addr} {n : Nat} (h : PotAt H p n) (s : ExtN H H') : PotAt H' p n := by
  obtain ⟨o, m, c, e, r⟩ := h
  exact ⟨o, m, c, s.lst e, r⟩
section
variable {P : Program} {w : World} {K : PySem.W.Frag} {mg : Str → Option Value} {base : Heap} {C : Addr} {N : List Str} {sc : Scope} {σ : L2.St} {H : Hp} {x g par qu : Str} {ga : Addr} {gd : FuncData} {sp : Sp} {v : V} {p p2 p3 : Pos} {T : List (Addr × Str)}
theorem rd_refused (hT : Tabs T H) (G : FnG P w K mg base (L2.CX P w) 15 ga gd [par] sp) (hg : mg g = some (.ref ga)) (hk : PySem.W.keepIn K (.ref ga) = true) (hB : L2.Binds K gd [par] []) (hne : (g == x) = false)
    (d1 : (g == ("__debug__" : Str)) = false) (d2 : (x == ("__debug__" : Str)) = false) (d3 : (x == ("__classdict__" : Str)) = false)
    {i : Nat} (hi : N[i]? = some x) (hv : σ[i]? = some (some v)) (vis : Vis sc x)
    (R : ∀ H1, ExtN H H1 → Refuses C sp v H1) (Sh : Shown K H v) {Q : VK} (k : ∀ H5, ExtN H H5 → Tabs T H5 → Q (.bl true) H5) :
    tCallLamN N sc qu T noPar (.Call (.Name g p) [.Name x p2] [] p3) (scL x g) (spRefused P w K mg base C) (tCons (tVar i) tNil) σ H Q := by
  refine ⟨hT, fun f l H1 cells e1 e2 e3 e4 e5 has inj eN T1 n0 hf hc => ⟨v, hv, fun H3 F => ?_⟩⟩
  exact refused1 F e2 e4 e5 e3 G hg hk hB hne d1 d2 d3 hf hc hi hv vis (R H1 eN) (Sh.extN eN) fun H5 s5 => k H5 (eN.seqS s5) (T1.ext s5)
theorem rd_refIf (hT : Tabs T H) (G : FnG P w K mg base (L2.CX P w) 15 ga gd [par] sp) (hg : mg g = some (.ref ga)) (hk : PySem.W.keepIn K (.ref ga) = true) (hB : L2.Binds K gd [par] []) (hne : (g == x) = false)
    (d1 : (g == ("__debug__" : Str)) = false) (d2 : (x == ("__debug__" : Str)) = false) (d3 : (x == ("__classdict__" : Str)) = false)
    {i : Nat} (hi : N[i]? = some x) (hv : σ[i]? = some (some v)) (vis : Vis sc x)
    (R : ∀ H1, ExtN H H1 → Refuses C sp v H1) (Sh : Shown K H v) {tr tn : TS} {D : Ends} (k : ∀ H5, ExtN H H5 → Tabs T H5 → tn D σ H5) :
    tIfS (tNot (tB (tCallLamN N sc qu T noPar (.Call (.Name g p) [.Name x p2] [] p3) (scL x g) (spRefused P w K mg base C) (tCons (tVar i) tNil)))) tr tn D σ H :=
  (rd_refused hT G hg hk hB hne d1 d2 d3 hi hv vis R Sh (Q := fun x H1 => ∃ c, x = .bl c ∧ if (!c) = true then tr D σ H1 else tn D σ H1) fun H5 e5 t5 => ⟨true, rfl, k H5 e5 t5⟩ : tCallLamN N sc qu T noPar (.Call (.Name g p) [.Name x p2] [] p3) (scL x g) (spRefused P w K mg base C) (tCons (tVar i) tNil) σ H _)
theorem rd_caught {L q : Addr} {t : Str} {s : Str} {p4 p5 p6 : Pos} (hT : Tabs T H) (hxt : (x == t) = false) (hpos : (p5.endLine == p6.line) = true)
    (G : FnG P w K mg base (L2.CX P w) 15 ga gd [par] (spRead C)) (hg : mg g = some (.ref ga)) (hk : PySem.W.keepIn K (.ref ga) = true) (hB : L2.Binds K gd [par] []) (hne : (g == x) = false) (hnt : (g == t) = false)
    (d1 : (g == ("__debug__" : Str)) = false) (d2 : (x == ("__debug__" : Str)) = false) (d3 : (x == ("__classdict__" : Str)) = false) (d4 : (t == ("__debug__" : Str)) = false) (d5 : (t == ("__classdict__" : Str)) = false)
    (hbase : ∀ e : Env, attributeBase (.Name t p4) "append" e (eval (.Name t p4) e) = eval (.Name t p4) e)
    {i j : Nat} (hi : N[i]? = some x) (hv : σ[i]? = some (some (.str s))) (vis : Vis sc x) (hj : N[j]? = some t) (hvt : σ[j]? = some (some (.ref q))) (vist : Vis sc t)
    (hq : H q = some (.lst [])) (hl : s.length < 2 ^ 19) (hx : PySem.W.exmOne K (.ref C) (.ref L) = some true) {Q : VK}
    (k1 : ∀ d u H', readP s = some d → (∀ b o, b ≠ q → H b = some o → (∀ ps, o ≠ .tbl ps) → H' b = some o) → Tabs T H' → TD H' u d → noL d = true → H' q = some (.lst [u]) → Q .non H')
    (k0 : readP s = none → ∀ a H', ExtN H H' → Tabs T H' → Q (.ref a) H') :
    tCallLamN N sc qu T noPar (.Call (.Attribute (.Name t p4) "append" p5) [.Call (.Name g p) [.Name x p2] [] p3] [] p6) (scL2 x t g) (spCaught P w K mg base L) tNil σ H Q := by
  refine ⟨hT, fun f l H1 cells e1 e2 e3 e4 e5 has inj eN T1 n0 hf hc H3 F => ?_⟩
  obtain ⟨c, hcx⟩ := has (x, .free) (by simp [scL2]) rfl
  obtain ⟨c2, hct⟩ := has (t, .free) (by simp [scL2]) rfl
  have hc5 : l.clo = [(t, c2), (x, c)] := by
    rw [e5]
    show [(t, (cells.lookup t).getD 0), (x, (cells.lookup x).getD 0)] = _
    rw [show cells.lookup x = some c from hcx, show cells.lookup t = some c2 from hct]; rfl
  have hcc : c ≠ c2 := fun z => by
    have := inj x t c hcx (by rw [z]; exact hct)
    rw [this] at hxt; simp at hxt
  have q1 := eN.lst hq
  refine caught2 F e2 e4 hc5 hcc hxt e3 hpos G hg hk hB hne hnt d1 d2 d3 d4 d5 hbase hf hc hi hv vis hj hvt vist q1 hl hx (fun d u H' hd s' td nl => ?_) fun hn a H4 s4 => k0 hn a H4 (eN.seqS s4) (T1.ext s4)
  have hq' := s' _ _ q1
  have ku : ∀ b o, b ≠ q → H' b = some o → (upd H' q (.lst [u])) b = some o := fun b o ne e => by rw [upd_ne ne]; exact e
  refine k1 d u _ hd (fun b o ne e n => ku b o ne (s' _ _ (eN b o e n))) (fun pt hp => ?_) (td.keepT (fun a xs e => ku a _ (fun z => by rw [z, hq'] at e; cases e) e) _ _ nl) nl upd_same
  obtain ⟨ps, h1, h2, h3⟩ := (T1.ext s') pt hp
  refine ⟨ps, ku _ _ (fun z => by rw [z, hq'] at h1; cases h1) h1, h2, fun pos cv hcv => ?_⟩
  obtain ⟨c0, e1, e2⟩ := h3 pos cv hcv
  exact ⟨c0, e1, ku _ _ (fun z => by rw [z, hq'] at e2; cases e2) e2⟩
theorem rd_caughtIf {L q : Addr} {t : Str} {s : Str} {p4 p5 p6 : Pos} (hT : Tabs T H) (hxt : (x == t) = false) (hpos : (p5.endLine == p6.line) = true)
    (G : FnG P w K mg base (L2.CX P w) 15 ga gd [par] (spRead C)) (hg : mg g = some (.ref ga)) (hk : PySem.W.keepIn K (.ref ga) = true) (hB : L2.Binds K gd [par] []) (hne : (g == x) = false) (hnt : (g == t) = false)
    (d1 : (g == ("__debug__" : Str)) = false) (d2 : (x == ("__debug__" : Str)) = false) (d3 : (x == ("__classdict__" : Str)) = false) (d4 : (t == ("__debug__" : Str)) = false) (d5 : (t == ("__classdict__" : Str)) = false)
    (hbase : ∀ e : Env, attributeBase (.Name t p4) "append" e (eval (.Name t p4) e) = eval (.Name t p4) e)
    {i j : Nat} (hi : N[i]? = some x) (hv : σ[i]? = some (some (.str s))) (vis : Vis sc x) (hj : N[j]? = some t) (hvt : σ[j]? = some (some (.ref q))) (vist : Vis sc t)
    (hq : H q = some (.lst [])) (hl : s.length < 2 ^ 19) (hx : PySem.W.exmOne K (.ref C) (.ref L) = some true) {tr tn : TS} {D : Ends}
    (k1 : ∀ d u H', readP s = some d → (∀ b o, b ≠ q → H b = some o → (∀ ps, o ≠ .tbl ps) → H' b = some o) → Tabs T H' → TD H' u d → noL d = true → H' q = some (.lst [u]) → tr D σ H')
    (k0 : readP s = none → ∀ H', ExtN H H' → Tabs T H' → tn D σ H') :
    tIfS (tTest (tOp (fun x y H Q => y = V.non ∧ Q (V.bl (decide (x = V.non))) H) (tCallLamN N sc qu T noPar (.Call (.Attribute (.Name t p4) "append" p5) [.Call (.Name g p) [.Name x p2] [] p3] [] p6) (scL2 x t g) (spCaught P w K mg base L) tNil) (tC V.non))) tr tn D σ H :=
  (rd_caught hT hxt hpos G hg hk hB hne hnt d1 d2 d3 d4 d5 hbase hi hv vis hj hvt vist hq hl hx (Q := fun x H1 => V.non = V.non ∧ ∃ k, V.bl (decide (x = V.non)) = V.bl k ∧ if k = true then tr D σ H1 else tn D σ H1)
    (fun d u H' hd e tt td nl hq' => ⟨rfl, true, rfl, k1 d u H' hd e tt td nl hq'⟩) (fun hn a H' e tt => ⟨rfl, false, rfl, k0 hn H' e tt⟩) :
    tCallLamN N sc qu T noPar (.Call (.Attribute (.Name t p4) "append" p5) [.Call (.Name g p) [.Name x p2] [] p3] [] p6) (scL2 x t g) (spCaught P w K mg base L) tNil σ H _)
end
end My

namespace My
open PySem PySem.Spec PyProof.Rows L2 LamX
/-! ### signs of a text are small -/
def Sm (s : Str) : Prop := ∀ c ∈ cL s, c < 128
theorem sm_app {a b : Str} (h : Sm a) (k : Sm b) : Sm (a ++ b) := fun c hc => by
  rw [cL_app] at hc
  exact (List.mem_append.mp hc).elim (h c) (k c)
theorem cut_sub (s : Str) (lo hi : Option Int) : ∀ c ∈ cL (cutS s lo hi), c ∈ cL s := fun c hc => by
  unfold cutS at hc
  exact List.mem_of_mem_drop (List.mem_of_mem_take (show c ∈ (s.cps.toList.drop _).take _ from hc))
theorem sm_cut {s : Str} (h : Sm s) (lo hi : Option Int) : Sm (cutS s lo hi) := fun c hc => h c (cut_sub s lo hi c hc)
theorem sm_part {d : PyData} (h : partD d = true) : Sm (partTxt d) := fun c hc => by
  have := (part_signs h).2 c hc
  unfold partSign at this
  simp at this; omega
mutual
theorem sm_text : ∀ d : PyData, okD d = true → Sm (textOf d)
  | .tuple ds, h => fun c hc => by
    have hc2 : c ∈ cL (brk (textsOf ds)) := hc
    rw [cL_brk] at hc2
    rcases List.mem_cons.mp hc2 with rfl | hc2
    · decide
    · rcases List.mem_append.mp hc2 with hc2 | hc2
      · exact sm_texts ds h c hc2
      · rw [List.mem_singleton.mp hc2]; decide
  | .none, h => sm_part (d := .none) h
  | .int i, h => sm_part (d := .int i) h
  | .str s, h => sm_part (d := .str s) h
  | .bool _, h => by cases h
  | .list _, h => by cases h
  | .dict _, h => by cases h
theorem sm_texts : ∀ ds : List PyData, okDs ds = true → Sm (Txt.join " " (textsOf ds))
  | [], h => by
    show Sm (Txt.join " " [])
    rw [join_none]; unfold Sm; decide
  | [d], h => by
    have h2 : (okD d && true) = true := h
    rw [Bool.and_true] at h2
    show Sm (Txt.join " " [textOf d])
    rw [join_one]
    exact sm_text d h2
  | d :: e :: ds, h => by
    have h2 : (okD d && okDs (e :: ds)) = true := h
    rw [Bool.and_eq_true] at h2
    have i2 := sm_texts (e :: ds) h2.2
    show Sm (Txt.join " " (textOf d :: textOf e :: textsOf ds))
    rw [join_two]
    exact sm_app (sm_app (sm_text d h2.1) (by unfold Sm; decide)) i2
end
theorem shown_sm {s : Str} (h : Sm s) : (PyData.str s).shown.length ≤ 10 * s.length + 2 := StrLaws.reprText_len s fun c hc => by
  have := h c hc
  omega
/-! ### values that are odd -/
/-- what is told of its text by repr -/
def Bw (k N : Nat) (d : PyData) : Prop := d.showable = true ∧ d.hasDict = false ∧ d.depth ≤ k ∧ sz d ≤ N ∧ d.shown.length ≤ N
theorem Bd.bw {k N : Nat} {d : PyData} (h : Bd k N d) : Bw k N d := ⟨h.2.1, h.2.2.1, h.2.2.2.1, h.2.2.2.2.1, h.2.2.2.2.2.2⟩
theorem bw_str {s : Str} (h : Sm s) {k : Nat} (hk : 1 ≤ k) : Bw k (10 * s.length + 2) (.str s) := ⟨rfl, rfl, by simp only [PyData.depth]; omega, by show 1 ≤ _; omega, shown_sm h⟩
theorem bw_tup2 {k N M : Nat} {d e : PyData} (h : Bw k N d) (g : Bw k M e) : Bw (k + 1) (N + M + 12) (.tuple [d, e]) := by
  obtain ⟨h1, h2, h3, h4, h5⟩ := h
  obtain ⟨g1, g2, g3, g4, g5⟩ := g
  refine ⟨by simp only [PyData.showable, PyData.showableAll, h1, g1]; rfl, by simp only [PyData.hasDict, PyData.hasDictAll, h2, g2]; rfl, by simp only [PyData.depth, PyData.depthAll]; omega, by simp only [sz, szs]; omega, ?_⟩
  rw [show (PyData.tuple [d, e]).shown = tupleText [d.shown, e.shown] by simp only [PyData.shown, PyData.shownAll]]
  have := tupleText_len_le [d.shown, e.shown]
  simp only [List.map_cons, List.map_nil, List.sum_cons, List.sum_nil, List.length_cons, List.length_nil] at this
  omega
theorem bw_lst1 {k N : Nat} {d : PyData} (h : Bw k N d) : Bw (k + 1) (N + 12) (.list [d]) := by
  obtain ⟨h1, h2, h3, h4, h5⟩ := h
  refine ⟨by simp only [PyData.showable, PyData.showableAll, h1]; rfl, by simp only [PyData.hasDict, PyData.hasDictAll, h2]; rfl, by simp only [PyData.depth, PyData.depthAll]; omega, by simp only [sz, szs]; omega, ?_⟩
  have e : (PyData.list [d]).shown = "[" ++ d.shown ++ "]" := by simp only [PyData.shown, PyData.shownAll]; rfl
  rw [e]
  have : ("[" ++ d.shown ++ "]" : Str).length = 1 + d.shown.length + 1 := by
    rw [PySem.Str.length_append, PySem.Str.length_append]; rfl
  omega
theorem shown_of {K : PySem.W.Frag} {H : Hp} {v : V} {d : PyData} {N : Nat} (t : TD H v d) (h : Bw 60 N d) (hN : N ≤ 2 ^ 23) (hi : ∀ i, d = .int i → i.natAbs.log2 < 1920) : Shown K H v :=
  .inl ⟨d, t, h.1, h.2.1, h.2.2.1, by rw [sizeLine_eq]; have := h.2.2.2.2; omega, hi⟩
theorem Bw.mono {k N k' N' : Nat} {d : PyData} (h : Bw k N d) (a : k ≤ k') (b : N ≤ N') : Bw k' N' d := by
  obtain ⟨h1, h2, h3, h4, h5⟩ := h
  exact ⟨h1, h2, by omega, by omega, by omega⟩
/-- odd: shown, and no paper -/
def OddV (K : PySem.W.Frag) (H : Hp) (v : V) : Prop := Shown K H v ∧ ∃ d, ItD H v d ∧ sz d < 2 ^ 20 ∧ nest 12 d = false
theorem OddV.extN {K : PySem.W.Frag} {H H' : Hp} {v : V} (h : OddV K H v) (e : ExtN H H') : OddV K H' v := by
  obtain ⟨a, d, b, c⟩ := h
  exact ⟨a.extN e, d, b.extN e, c⟩
theorem OddV.of {K : PySem.W.Frag} {H : Hp} {v : V} {d : PyData} {N : Nat} (t : TD H v d) (h : Bw 60 N d) (hN : N < 2 ^ 20) (hi : ∀ i, d = .int i → i.natAbs.log2 < 1920) (n : nest 12 d = false) : OddV K H v :=
  ⟨shown_of t h (by omega) hi, d, .inl t, by have := h.2.2.2.1; omega, n⟩
theorem tabs_but {T : List (Addr × Str)} {H H' : Hp} {p : Addr} {n : Nat} (hp : PotAt H p n) (b : But p H H') (t : Tabs T H) : Tabs T H' := fun q hq => by
  obtain ⟨o, s, c, e, _⟩ := hp
  obtain ⟨ps, h1, h2, h3⟩ := t q hq
  refine ⟨ps, b _ _ (fun z => by rw [z, e] at h1; cases h1) h1, h2, fun pos cv hcv => ?_⟩
  obtain ⟨c0, e1, e2⟩ := h3 pos cv hcv
  exact ⟨c0, e1, b _ _ (fun z => by rw [z, e] at e2; cases e2) e2⟩
/-- all but the pot and tables stays -/
def Xp (p : Addr) (H H' : Hp) : Prop := ∀ b o, b ≠ p → H b = some o → (∀ ps, o ≠ .tbl ps) → H' b = some o
theorem Xp.ofBut {p : Addr} {H H' : Hp} (h : But p H H') : Xp p H H' := fun b o n e _ => h b o n e
theorem Xp.ofN {p : Addr} {H H' : Hp} (h : ExtN H H') : Xp p H H' := fun b o _ e t => h b o e t
theorem Xp.trans {p : Addr} {H H1 H2 : Hp} (h : Xp p H H1) (g : Xp p H1 H2) : Xp p H H2 := fun b o n e t => g b o n (h b o n e t) t
theorem nest_two {d e : PyData} (h : (partD e || nest 11 e) = false) : nest 12 (.tuple [d, e]) = false := by
  show ((partD d || nest 11 d) && ((partD e || nest 11 e) && true)) = false
  rw [h]; simp
theorem sm_bd {d : PyData} {N : Nat} (h : Bd 20 N d) : Sm (textOf d) := sm_text d h.1
theorem odd_dict {K : PySem.W.Frag} {H : Hp} {a : Addr} (e : H a = some (.dK [])) : OddV K H (.ref a) :=
  ⟨.inr ⟨a, rfl, e⟩, .bool true, .inr ⟨.dct e, rfl⟩, by show 1 < _; decide, rfl⟩
/-- the odd values of the law -/
theorem odds7 {K : PySem.W.Frag} {H : Hp} {x vd : V} {d dd : PyData} {a1 a2 a3 a4 a5 a6 a7 : Addr} (td : TD H x d) (bd : Bd 20 40000 d) (tdd : TD H vd dd) (bdd : Bd 20 40000 dd) (ned : nest 12 dd = false) (hi : ∀ i, dd = .int i → i.natAbs.log2 < 1920)
    (m1 : H a1 = none) (m2 : (upd H a1 (.lst [x])) a2 = none) (m3 : (upd (upd H a1 (.lst [x])) a2 (.tup [x, .bl true])) a3 = none)
    (m4 : (upd (upd (upd H a1 (.lst [x])) a2 (.tup [x, .bl true])) a3 (.tup [x, .str "P"])) a4 = none)
    (m5 : (upd (upd (upd (upd H a1 (.lst [x])) a2 (.tup [x, .bl true])) a3 (.tup [x, .str "P"])) a4 (.tup [x, .str "a b"])) a5 = none)
    (m6 : (upd (upd (upd (upd (upd H a1 (.lst [x])) a2 (.tup [x, .bl true])) a3 (.tup [x, .str "P"])) a4 (.tup [x, .str "a b"])) a5 (.tup [.str "_"])) a6 = none)
    (m7 : (upd (upd (upd (upd (upd (upd H a1 (.lst [x])) a2 (.tup [x, .bl true])) a3 (.tup [x, .str "P"])) a4 (.tup [x, .str "a b"])) a5 (.tup [.str "_"])) a6 (.dK [])) a7 = none) :
    ∃ H7, H7 = (upd (upd (upd (upd (upd (upd (upd H a1 (.lst [x])) a2 (.tup [x, .bl true])) a3 (.tup [x, .str "P"])) a4 (.tup [x, .str "a b"])) a5 (.tup [.str "_"])) a6 (.dK [])) a7 (.tup [vd, .ref a1, .ref a2, .ref a3, .ref a4, .ref a5, .non, .str (textOf d), .ref a6])) ∧ Same H H7 ∧
      H7 a7 = some (.tup [vd, .ref a1, .ref a2, .ref a3, .ref a4, .ref a5, .non, .str (textOf d), .ref a6]) ∧ ∀ y ∈ [vd, .ref a1, .ref a2, .ref a3, .ref a4, .ref a5, .non, .str (textOf d), .ref a6], OddV K H7 y := by
  have S1 := same_upd (o := .lst [x]) m1
  have S2 := same_upd (o := .tup [x, .bl true]) m2
  have S3 := same_upd (o := .tup [x, .str "P"]) m3
  have S4 := same_upd (o := .tup [x, .str "a b"]) m4
  have S5 := same_upd (o := .tup [.str "_"]) m5
  have S6 := same_upd (o := .dK []) m6
  have S7 := same_upd (o := .tup [vd, .ref a1, .ref a2, .ref a3, .ref a4, .ref a5, .non, .str (textOf d), .ref a6]) m7
  have S67 := S6.trans S7
  have S57 := S5.trans S67
  have S47 := S4.trans S57
  have S37 := S3.trans S47
  have S27 := S2.trans S37
  have S17 := S1.trans S27
  have e1 := S27 _ _ (upd_same (H := H) (a := a1) (o := .lst [x]))
  have e2 := S37 a2 _ upd_same
  have e3 := S47 a3 _ upd_same
  have e4 := S57 a4 _ upd_same
  have e5 := S67 a5 _ upd_same
  have e6 := S7 a6 _ upd_same
  refine ⟨_, rfl, S17, upd_same, fun y hy => ?_⟩
  have T1 := td.same S17
  have bw := bd.bw
  have tl := bd.2.2.2.2.2.1
  have str : ∀ {H : Hp} {s : Str}, s.length < 2 ^ 20 → TD H (.str s) (.str s) := fun h => .str _ h
  simp only [List.mem_cons, List.not_mem_nil, or_false] at hy
  rcases hy with rfl | rfl | rfl | rfl | rfl | rfl | rfl | rfl | rfl
  · exact .of (tdd.same S17) (bdd.bw.mono (by decide) (Nat.le_refl _)) (by decide) hi ned
  · exact .of (.lst e1 (.cons T1 .nil)) ((bw_lst1 bw).mono (by decide) (Nat.le_refl _)) (by decide) (fun i z => by cases z) rfl
  · exact .of (.tup e2 (.cons T1 (.cons (.bl _) .nil))) ((bw_tup2 (M := 10) bw (e := .bool true) (by unfold Bw; decide)).mono (by decide) (Nat.le_refl _)) (by decide) (fun i z => by cases z) (nest_two rfl)
  · exact .of (.tup e3 (.cons T1 (.cons (str (by decide)) .nil))) ((bw_tup2 (M := 10) bw (e := .str "P") (by unfold Bw; decide +kernel)).mono (by decide) (Nat.le_refl _)) (by decide) (fun i z => by cases z) (nest_two (by decide +kernel))
  · exact .of (.tup e4 (.cons T1 (.cons (str (by decide)) .nil))) ((bw_tup2 (M := 10) bw (e := .str "a b") (by unfold Bw; decide +kernel)).mono (by decide) (Nat.le_refl _)) (by decide) (fun i z => by cases z) (nest_two (by decide +kernel))
  · exact .of (N := 20) (d := .tuple [.str "_"]) (.tup e5 (.cons (str (by decide)) .nil)) (by unfold Bw; decide +kernel) (by decide) (fun i z => by cases z) (by decide +kernel)
  · exact .of (N := 20) .non (by unfold Bw; decide +kernel) (by decide) (fun i z => by cases z) rfl
  · exact .of (str (by omega)) ((bw_str (sm_text d bd.1) (Nat.le_refl _)).mono (N' := 400002) (by decide) (by omega)) (by decide) (fun i z => by cases z) rfl
  · exact odd_dict e6
end My

namespace My
open PySem PySem.Spec PyProof.Rows L2 LamX
theorem tabs_upd {T : List (Addr × Str)} {H : Hp} {D : Addr} {xs : List V} {o : HO} (h : H D = some (.lst xs)) (t : Tabs T H) : Tabs T (upd H D o) := fun q hq => by
  obtain ⟨ps, h1, h2, h3⟩ := t q hq
  refine ⟨ps, by rw [upd_ne (fun z => by rw [z, h] at h1; cases h1)]; exact h1, h2, fun pos cv hcv => ?_⟩
  obtain ⟨c0, e1, e2⟩ := h3 pos cv hcv
  exact ⟨c0, e1, by rw [upd_ne (fun z => by rw [z, h] at e2; cases e2)]; exact e2⟩
theorem extN_new {H H' : Hp} {D : Addr} {o : HO} (hD : H D = none) (e : ExtN H H') : ExtN H (upd H' D o) := fun b u h n => by
  rw [upd_ne (ne_of_none h hD)]; exact e b u h n
theorem rep_snoc (i : Nat) : (List.replicate i true).map V.bl ++ [V.bl true] = (List.replicate (i + 1) true).map V.bl := by
  rw [List.replicate_succ', List.map_append]; rfl
section
variable {K : PySem.W.Frag} {a : Addr} {xs : List V} {te : TE} {j : Nat} {σ : L2.St} {H1 : Hp} {D : Addr} {Qd : Hp → Prop} {T : List (Addr × Str)}
/-- every item's turn tells True -/
theorem lcAll_list (hD : H1 D = none) (hS : H1 a = some (.lst xs)) (hz : xs.length < sizeLine) (hT : Tabs T H1)
    (he : ∀ y, y ∈ xs → ∀ (H : Hp) (Q : VK), ExtN H1 H → Tabs T H → (∀ H', ExtN H H' → Tabs T H' → Q (.bl true) H') → te ((σ.set j none).set j (some y)) H Q)
    (hd : ∀ H, ExtN H1 H → Tabs T H → H D = some (.lst ((List.replicate xs.length true).map V.bl)) → Qd H) :
    ∃ W : Nat → Nat → Hp → Prop, (∃ m, W 0 m (upd H1 D (.lst []))) ∧ ∀ i m H, W i m H →
      ((Itl K a).stop i H ∧ Qd H) ∨ ((Itl K a).go i H ∧ ∃ Nx : Hp → Prop, (∀ H', Nx H' → ∃ m', m' < m ∧ W (i + 1) m' H') ∧ ∀ y H', (Itl K a).yld i H y H' → gName j y (wipe σ [j]) H' fun σ2 H2 => wipe σ2 [j] = wipe σ [j] ∧ tYes σ2 H2 fun b H3 =>
        if b = true then te σ2 H3 fun z H4 => ∃ acc, H4 D = some (.lst acc) ∧ acc.length < sizeLine ∧ Nx (upd H4 D (.lst (acc ++ [z]))) else Nx H3) := by
  refine lc_list (K := K) (a := a) (xs := xs) (vs := [j]) (fun i H => ExtN H1 H ∧ Tabs T H ∧ H D = some (.lst ((List.replicate i true).map V.bl)) ∧ i ≤ xs.length) ⟨extN_new hD (.refl _), hT.ext fun b o e => by rw [upd_ne (ne_of_none e hD)]; exact e, upd_same, Nat.zero_le _⟩ (fun i H _ p => SqL.of (p.1.lst hS)) ?_ ?_
  · rintro i x H hx ⟨eN, tt, hl, _⟩
    refine ⟨by simp [wipe1, List.set_set], ?_⟩
    refine he x (List.mem_of_getElem? hx) H _ eN tt fun H2 e2 t2 => ?_
    have hi : i < xs.length := (List.getElem?_eq_some_iff.mp hx).1
    have l2 := e2.lst hl
    refine ⟨_, l2, ?_, extN_new hD (eN.trans e2), tabs_upd l2 t2, ?_, hi⟩
    · rw [List.length_map, List.length_replicate]; omega
    · rw [upd_same, rep_snoc]
  · rintro H ⟨eN, tt, hl, _⟩
    exact hd H eN tt hl
theorem lcAll_tup (hD : H1 D = none) (hS : H1 a = some (.tup xs)) (hz : xs.length < sizeLine) (hT : Tabs T H1)
    (he : ∀ y, y ∈ xs → ∀ (H : Hp) (Q : VK), ExtN H1 H → Tabs T H → (∀ H', ExtN H H' → Tabs T H' → Q (.bl true) H') → te ((σ.set j none).set j (some y)) H Q)
    (hd : ∀ H, ExtN H1 H → Tabs T H → H D = some (.lst ((List.replicate xs.length true).map V.bl)) → Qd H) :
    ∃ W : Nat → Nat → Hp → Prop, (∃ m, W 0 m (upd H1 D (.lst []))) ∧ ∀ i m H, W i m H →
      ((Itt K a).stop i H ∧ Qd H) ∨ ((Itt K a).go i H ∧ ∃ Nx : Hp → Prop, (∀ H', Nx H' → ∃ m', m' < m ∧ W (i + 1) m' H') ∧ ∀ y H', (Itt K a).yld i H y H' → gName j y (wipe σ [j]) H' fun σ2 H2 => wipe σ2 [j] = wipe σ [j] ∧ tYes σ2 H2 fun b H3 =>
        if b = true then te σ2 H3 fun z H4 => ∃ acc, H4 D = some (.lst acc) ∧ acc.length < sizeLine ∧ Nx (upd H4 D (.lst (acc ++ [z]))) else Nx H3) := by
  refine lc_tup (K := K) (a := a) (xs := xs) (vs := [j]) (fun i H => ExtN H1 H ∧ Tabs T H ∧ H D = some (.lst ((List.replicate i true).map V.bl)) ∧ i ≤ xs.length) ⟨extN_new hD (.refl _), hT.ext fun b o e => by rw [upd_ne (ne_of_none e hD)]; exact e, upd_same, Nat.zero_le _⟩ (fun i H _ p => SqT.of (p.1.tup hS)) ?_ ?_
  · rintro i x H hx ⟨eN, tt, hl, _⟩
    refine ⟨by simp [wipe1, List.set_set], ?_⟩
    refine he x (List.mem_of_getElem? hx) H _ eN tt fun H2 e2 t2 => ?_
    have hi : i < xs.length := (List.getElem?_eq_some_iff.mp hx).1
    have l2 := e2.lst hl
    refine ⟨_, l2, ?_, extN_new hD (eN.trans e2), tabs_upd l2 t2, ?_, hi⟩
    · rw [List.length_map, List.length_replicate]; omega
    · rw [upd_same, rep_snoc]
  · rintro H ⟨eN, tt, hl, _⟩
    exact hd H eN tt hl
end
/-! ### what read_paper refuses -/
def RdV (K : PySem.W.Frag) (H : Hp) (v : V) : Prop := Shown K H v ∧ Known H v ∧ ∀ s, v = .str s → s.length < 2 ^ 19 ∧ readP s = none
theorem RdV.extN {K : PySem.W.Frag} {H H' : Hp} {v : V} (h : RdV K H v) (e : ExtN H H') : RdV K H' v := ⟨h.1.extN e, h.2.1.extN e, h.2.2⟩
theorem RdV.refuses {K : PySem.W.Frag} {H : Hp} {v : V} {C : Addr} (h : RdV K H v) : Refuses C (spRead C) v H := refuses_read h.2.1 h.2.2
theorem RdV.str {K : PySem.W.Frag} {H : Hp} {s : Str} (h : Sm s) (l : s.length ≤ 100000) (n : readP s = none) : RdV K H (.str s) :=
  ⟨shown_of (N := 1000002) (.str s (by omega)) ((bw_str h (Nat.le_refl 1)).mono (by decide) (by omega)) (by decide) (fun i z => by cases z), .str s, fun z e => by cases e; exact ⟨by omega, n⟩⟩
theorem RdV.td {K : PySem.W.Frag} {H : Hp} {v : V} {d : PyData} {N : Nat} (t : TD H v d) (h : Bw 60 N d) (hN : N ≤ 2 ^ 23) (hi : ∀ i, d = .int i → i.natAbs.log2 < 1920) (ns : ∀ s, d ≠ .str s) : RdV K H v :=
  ⟨shown_of t h hN hi, t.known, fun s e => by subst e; cases t; exact absurd rfl (ns s)⟩
/-- texts that are told -/
def OkS (s : Str) : Prop := s.length ≤ 100000 ∧ Sm s
theorem OkS.app {a b : Str} {n m : Nat} (h : a.length ≤ n ∧ Sm a) (k : b.length ≤ m ∧ Sm b) : (a ++ b).length ≤ n + m ∧ Sm (a ++ b) := ⟨by rw [PySem.Str.length_append]; omega, sm_app h.2 k.2⟩
theorem OkS.cut {a : Str} {n : Nat} (h : a.length ≤ n ∧ Sm a) (lo hi : Option Int) : (cutS a lo hi).length ≤ n ∧ Sm (cutS a lo hi) := ⟨Nat.le_trans (cutS_length a lo hi) h.1, sm_cut h.2 lo hi⟩
theorem cut_last (s : Str) : cL (cutS s none (some (-1))) = (cL s).dropLast := by
  have e : s.cps.toList.length = s.length := Array.length_toList
  have i1 : HT.sIx s.length s.length (some (-1)) = s.length - 1 := by
    show (if (-1 : Int) < 0 then ((-1 : Int) + (s.length : Int)).toNat else min (-1 : Int).toNat s.length) = _
    rw [if_pos (by decide)]; omega
  show (cutS s none (some (-1))).cps.toList = s.cps.toList.dropLast
  unfold cutS
  rw [HT.sIx_none, i1]
  show (s.cps.toList.drop 0).take (s.length - 1 - 0) = _
  rw [List.drop_zero, Nat.sub_zero, ← e, List.dropLast_eq_take]
/-- the changed texts of the law -/
def someT (t g td : Str) (pl : Int) : List Str := [t ++ ")", " " ++ t, t ++ " ", "(" ++ t, cutS t none (some (-1)), cutS t none (some pl) ++ g ++ cutS t (some pl) none, "", "p"] ++
  [cutS t none (some pl) ++ cutS t (some (pl + 1)) none, "(p..q)", "(a1)", "(a.1)", "()()", "( )", td]
theorem okS_some {t g td : Str} {pl : Int} (ht : t.length ≤ 40000 ∧ Sm t) (hd : td.length ≤ 40000 ∧ Sm td) (hg : g.length ≤ 1 ∧ Sm g) : ∀ s ∈ someT t g td pl, OkS s := by
  have lit : ∀ {s : Str}, s.length ≤ 10 → Sm s → OkS s := fun h k => ⟨by omega, k⟩
  have L : ∀ {s : Str} {n : Nat}, s.length ≤ n ∧ Sm s → n ≤ 100000 → OkS s := fun h k => ⟨by omega, h.2⟩
  have l1 : ∀ {s : Str}, s.length ≤ 1 → Sm s → s.length ≤ 1 ∧ Sm s := fun h k => ⟨h, k⟩
  intro s hs
  unfold someT at hs
  simp only [List.cons_append, List.nil_append, List.mem_cons, List.not_mem_nil, or_false] at hs
  rcases hs with rfl | rfl | rfl | rfl | rfl | rfl | rfl | rfl | rfl | rfl | rfl | rfl | rfl | rfl | rfl
  · exact L (OkS.app ht (l1 (by decide) (by unfold Sm; decide))) (by omega)
  · exact L (OkS.app (l1 (by decide) (by unfold Sm; decide)) ht) (by omega)
  · exact L (OkS.app ht (l1 (by decide) (by unfold Sm; decide))) (by omega)
  · exact L (OkS.app (l1 (by decide) (by unfold Sm; decide)) ht) (by omega)
  · exact L (OkS.cut ht _ _) (by omega)
  · exact L (OkS.app (OkS.app (OkS.cut ht _ _) hg) (OkS.cut ht _ _)) (by omega)
  · exact lit (by decide) (by unfold Sm; decide)
  · exact lit (by decide) (by unfold Sm; decide)
  · exact L (OkS.app (OkS.cut ht _ _) (OkS.cut ht _ _)) (by omega)
  · exact lit (by decide) (by unfold Sm; decide)
  · exact lit (by decide) (by unfold Sm; decide)
  · exact lit (by decide) (by unfold Sm; decide)
  · exact lit (by decide) (by unfold Sm; decide)
  · exact lit (by decide) (by unfold Sm; decide)
  · exact L hd (by omega)
def badT (t td : Str) : List Str := [cutS t none (some (-1)), t ++ ")", " " ++ t, "", "p", "()()", "( )", "(00)", "(-0)", "(+1)", "(1a)", td]
theorem rd_bad {K : PySem.W.Frag} {H : Hp} {ds dds : List PyData} (bd : Bd 20 40000 (.tuple ds)) (bdd : Bd 20 40000 (.tuple dds)) (ned : nest 12 (.tuple dds) = false) : ∀ y ∈ (badT (textOf (.tuple ds)) (textOf (.tuple dds))).map V.str, RdV K H y := by
  intro y hy
  obtain ⟨s, hs, rfl⟩ := List.mem_map.mp hy
  have ht : (textOf (.tuple ds)).length ≤ 40000 ∧ Sm (textOf (.tuple ds)) := ⟨bd.2.2.2.2.2.1, sm_text _ bd.1⟩
  have hd : (textOf (.tuple dds)).length ≤ 40000 ∧ Sm (textOf (.tuple dds)) := ⟨bdd.2.2.2.2.2.1, sm_text _ bdd.1⟩
  have l1 : ∀ {s : Str}, s.length ≤ 1 → Sm s → s.length ≤ 1 ∧ Sm s := fun h k => ⟨h, k⟩
  have L : ∀ {s : Str} {n : Nat}, s.length ≤ n ∧ Sm s → n ≤ 100000 → readP s = none → RdV K H (.str s) := fun h k r => .str h.2 (by omega) r
  unfold badT at hs
  simp only [List.mem_cons, List.not_mem_nil, or_false] at hs
  rcases hs with rfl | rfl | rfl | rfl | rfl | rfl | rfl | rfl | rfl | rfl | rfl | rfl
  · exact L (OkS.cut ht _ _) (by omega) (no_less bd.1 (cut_last _))
  · exact L (OkS.app ht (l1 (by decide) (by unfold Sm; decide))) (by omega) (no_more bd.1)
  · exact L (OkS.app (l1 (by decide) (by unfold Sm; decide)) ht) (by omega) (no_front _)
  · exact .str (by unfold Sm; decide) (by decide) no_empty
  · exact .str (by unfold Sm; decide) (by decide) no_p
  · exact .str (by unfold Sm; decide) (by decide) no_two
  · exact .str (by unfold Sm; decide) (by decide) no_gap
  · exact .str (by unfold Sm; decide) (by decide) no_00
  · exact .str (by unfold Sm; decide) (by decide) no_m0
  · exact .str (by unfold Sm; decide) (by decide) no_p1
  · exact .str (by unfold Sm; decide) (by decide) no_1a
  · exact L hd (by omega) (readP_deep bdd.1 ned)
theorem all_rep (n : Nat) : (List.replicate n true).all id = true := by
  rw [List.all_eq_true]; intro x hx; exact (List.mem_replicate.mp hx).2
theorem sign_of {sg : V} (h : sg ∈ [V.str " ", .str "(", .str ")", .str "-", .str "!", .str "0", .str "a", .str "A", .str "\n", .str "."]) : ∃ g : Str, sg = .str g ∧ g.length ≤ 1 ∧ Sm g := by
  simp only [List.mem_cons, List.not_mem_nil, or_false] at h
  rcases h with rfl | rfl | rfl | rfl | rfl | rfl | rfl | rfl | rfl | rfl <;> exact ⟨_, rfl, by decide, by unfold Sm; decide⟩
theorem sz_line {n : Nat} (h : n ≤ 200000) : n ≤ sizeLine := by rw [sizeLine_eq]; omega
end My

namespace My
open PySem PySem.Spec PyProof.Rows L2 LamX
section
variable {P : Program} {w : World} {K : PySem.W.Frag} {mg : Str → Option Value} {base : Heap} {A : Nat → Addr} {D : Nat → FuncData} {PT : Addr}
theorem ok_values (T : Txt P K mg A D) : FnG P w K mg base CX0 7 (A 16) (D 16) ["pot", "deep"] (fun vs H Q E => ∃ n, n ≤ 4 ∧ spValue n vs H Q E) :=
  ⟨fun vs H Q E ⟨n, l, h⟩ => (ok_value (P := P) (w := w) (base := base) T n (by omega)).len vs H Q E h, fun A outer s H args us vs Q E h1 h2 h3 h4 h5 ⟨n, l, h⟩ => (ok_value (P := P) (w := w) (base := base) T n (by omega)).run A outer s H args us vs Q E (h1.mono (by omega)) h2 h3 h4 h5 h⟩
def lamT (PT : Addr) : List (Addr × Str) := [(PT, "_law_right.<locals>.<lambda>")]
theorem ne_self (v : V) : ¬ (!decide (v = v)) = true := by simp
/-- _law_right(pot) -/
def spRight (PT : Addr) : Sp := fun vs H Q _ => ∃ (p : Addr) (n : Nat), vs = [.ref p] ∧ PotAt H p n ∧ n + 1000 < 2 ^ 60 ∧ Tabs (lamT PT) H ∧
  ∀ H', Xp p H H' → PotAt H' p (n + 1000) → Tabs (lamT PT) H' → Q (.bl true) H'
theorem ok_right (T : Txt P K mg A D) (TB : TabB base mg (A 43) PT) : FnG P w K mg base CX0 20 (A 21) (D 21) ["pot"] (spRight PT) := by
  have G__law_take := ok_take (P := P) (w := w) (base := base) T
  have G__law_of := ok_of (P := P) (w := w) (base := base) T
  have G__law_deep := ok_deep (P := P) (w := w) (base := base) T
  have G__law_caught := ok_caught (P := P) (w := w) (base := base) T
  have G__law_is_refused := ok_refused (P := P) (w := w) (base := base) T
  have G__law_text := ok_ltext (P := P) (w := w) (base := base) T 16
  have G_paper_text := ok_paper (P := P) (w := w) (base := base) T
  have G_read_paper := ok_read (P := P) (w := w) (base := base) T
  have G__law_value := ok_values (P := P) (w := w) (base := base) T
  refine def_code T.F__law_right sc__law_right (fun vs H Q E h => ?_) (fun cdv Ar outer s H vs Q E hcd hr hG h => ?_)
  · obtain ⟨p, n, rfl, _⟩ := h; rfl
  · obtain ⟨p, n, rfl, hp, hn, hT, q⟩ := h
    obtain rfl : cdv = .ref (A 43) := hcd.symm.trans T.code
    refine ⟨_, (pss_cons (ps_set (i := 1) sc__law_right.nd rfl (Or.inl rfl) (pe_cg G__law_of (hr.mono (by first | decide | omega)) hG (by rfl) T.g__law_of T.F__law_of.kp T.b__law_of pass0 (pa_cons (pv 0) (pa_cons (pe_lst (pa_cons (pe_cg G__law_value (hr.mono (by first | decide | omega)) hG (by rfl) T.g__law_value T.F__law_value.kp T.b__law_value pass0 (pa_cons (pv 0) (pa_cons pe_int pa_nil))) (pa_cons (pe_cg G__law_value (hr.mono (by first | decide | omega)) hG (by rfl) T.g__law_value T.F__law_value.kp T.b__law_value pass0 (pa_cons (pv 0) (pa_cons pe_int pa_nil))) (pa_cons (pe_cg G__law_deep (hr.mono (by first | decide | omega)) hG (by rfl) T.g__law_deep T.F__law_deep.kp T.b__law_deep pass0 (pa_cons (pv 0) (pa_cons (pe_callTy call_int1 (by rfl) T.n_int (by decide +kernel) (pa_cons (pe_op op_add pe_int (pe_cg G__law_take (hr.mono (by first | decide | omega)) hG (by rfl) T.g__law_take T.F__law_take.kp T.b__law_take pass0 (pa_cons (pv 0) (pa_cons pe_int pa_nil)))) pa_nil)) pa_nil))) pa_nil)))) pa_nil))))
      (pss_cons (ps_set (i := 2) sc__law_right.nd rfl (Or.inl rfl) (pe_cg G__law_text (hr.mono (by first | decide | omega)) hG (by rfl) T.g__law_text T.F__law_text.kp T.b__law_text pass0 (pa_cons (pv 1) pa_nil)))
      (pss_cons (ps_if (PW.pt (pw_or (pt_cmpR op_ne (pe_cgk G_paper_text (hr.mono (by first | decide | omega)) hG (by rfl) T.g_paper_text T.F_paper_text.kp T.kb_paper_text L2.passL (pk_cons (pv 1) pk_nil)) (pv 2) (nomark _)) (pw_or1 (pt_cmpR op_ne (pe_callB (id := "repr") (call_repK (K := K) hG hr.units) (by rfl) T.n_repr (by decide +kernel) (pa_cons (pe_cgk G_read_paper (hr.mono (by first | decide | omega)) hG (by rfl) T.g_read_paper T.F_read_paper.kp T.kb_read_paper L2.passL (pk_cons (pv 2) pk_nil)) pa_nil)) (pe_callB (id := "repr") (call_repK (K := K) hG hr.units) (by rfl) T.n_repr (by decide +kernel) (pa_cons (pv 1) pa_nil)) (nomark _))))) (pss_one (ps_ret pe_bl)) pss_nil)
      (pss_cons (ps_set (i := 3) sc__law_right.nd rfl (Or.inl rfl) (pe_cg G__law_deep (hr.mono (by first | decide | omega)) hG (by rfl) T.g__law_deep T.F__law_deep.kp T.b__law_deep pass0 (pa_cons (pv 0) (pa_cons (pe_callTy call_int1 (by rfl) T.n_int (by decide +kernel) (pa_cons (pe_op op_add pe_int (pe_cg G__law_take (hr.mono (by first | decide | omega)) hG (by rfl) T.g__law_take T.F__law_take.kp T.b__law_take pass0 (pa_cons (pv 0) (pa_cons pe_int pa_nil)))) pa_nil)) pa_nil))))
      (pss_cons (ps_for (by first | exact PassesOwn.never | exact PassesOwn.leaving | exact L2.passes_of rfl) rfl (pi_tup (pe_tup (pa_cons (pv 3) (pa_cons (pe_lst (pa_cons (pv 1) pa_nil)) (pa_cons (pe_tup (pa_cons (pv 1) (pa_cons pe_bl pa_nil))) (pa_cons (pe_tup (pa_cons (pv 1) (pa_cons pe_str pa_nil))) (pa_cons (pe_tup (pa_cons (pv 1) (pa_cons pe_str pa_nil))) (pa_cons (pe_tup (pa_cons pe_str pa_nil)) (pa_cons pe_non (pa_cons (pv 2) (pa_cons pe_dnewK pa_nil))))))))))) (pg_name (i := 4) sc__law_right.nd rfl (Or.inr rfl)) (pss_one (ps_if (pt_not (pt_val (pe_lamN (N := ["pot", "value", "text", "deep", "odd", "place", "sign", "some", "other", "told", "bad"]) (pe_cgL (P := PT) (T := [(PT, "_law_right.<locals>.<lambda>")]) G__law_is_refused (hr.mono (by first | decide | omega)) hG (by rfl) T.g__law_is_refused T.F__law_is_refused.kp T.b__law_is_refused TB rfl (List.mem_singleton.mpr rfl) (fun p hp _ => by rw [List.mem_singleton.mp hp]; rfl) (by rfl) (by intro y hy e; simp only [List.mem_cons, List.not_mem_nil, or_false] at hy; rcases hy with rfl | rfl <;> first | (cases e; done) | exact ⟨rfl, .inl rfl⟩ | exact ⟨rfl, .inr rfl⟩) (pa_cons (pv 4) pa_nil)) rfl rfl rfl (by intro y hy e; simp only [List.mem_cons, List.not_mem_nil, or_false] at hy; rcases hy with rfl | rfl <;> first | (cases e; done) | exact .inl rfl | exact .inr rfl)))) (pss_one (ps_ret pe_bl)) pss_nil)))
      (pss_cons (ps_set (i := 5) sc__law_right.nd rfl (Or.inl rfl) (pe_cg G__law_take (hr.mono (by first | decide | omega)) hG (by rfl) T.g__law_take T.F__law_take.kp T.b__law_take pass0 (pa_cons (pv 0) (pa_cons (pe_op op_add (pe_callB call_len_str (by rfl) T.n_len PySem.boot_len (pa_cons (pv 2) pa_nil)) pe_int) pa_nil))))
      (pss_cons (ps_set (i := 6) sc__law_right.nd rfl (Or.inl rfl) (pe_cg G__law_of (hr.mono (by first | decide | omega)) hG (by rfl) T.g__law_of T.F__law_of.kp T.b__law_of pass0 (pa_cons (pv 0) (pa_cons (pe_lst (pa_cons pe_str (pa_cons pe_str (pa_cons pe_str (pa_cons pe_str (pa_cons pe_str (pa_cons pe_str (pa_cons pe_str (pa_cons pe_str (pa_cons pe_str (pa_cons pe_str pa_nil))))))))))) pa_nil))))
      (pss_cons (ps_set (i := 7) sc__law_right.nd rfl (Or.inl rfl) (pe_lst (pa_cons (pe_op op_add_str (pv 2) pe_str) (pa_cons (pe_op op_add_str pe_str (pv 2)) (pa_cons (pe_op op_add_str (pv 2) pe_str) (pa_cons (pe_op op_add_str pe_str (pv 2)) (pa_cons (pe_slice sl_str (pv 2) po_none (po_some (pe_un un_neg pe_int))) (pa_cons (pe_op op_add_str (pe_op op_add_str (pe_slice sl_str (pv 2) po_none (po_some (pv 5))) (pv 6)) (pe_slice sl_str (pv 2) (po_some (pv 5)) po_none)) (pa_cons pe_str (pa_cons pe_str pa_nil))))))))))
      (pss_cons (ps_set (i := 7) sc__law_right.nd rfl (Or.inl rfl) (pe_op op_cat (pv 7) (pe_lst (pa_cons (pe_op op_add_str (pe_slice sl_str (pv 2) po_none (po_some (pv 5))) (pe_slice sl_str (pv 2) (po_some (pe_op op_add (pv 5) pe_int)) po_none)) (pa_cons pe_str (pa_cons pe_str (pa_cons pe_str (pa_cons pe_str (pa_cons pe_str (pa_cons (pe_cg G__law_text (hr.mono (by first | decide | omega)) hG (by rfl) T.g__law_text T.F__law_text.kp T.b__law_text pass0 (pa_cons (pv 3) pa_nil)) pa_nil))))))))))
      (pss_cons (ps_for (by first | exact PassesOwn.never | exact PassesOwn.leaving | exact L2.passes_of rfl) rfl (pi_list (pv 7)) (pg_name (i := 8) sc__law_right.nd rfl (Or.inr rfl)) (pss_cons (ps_set (i := 9) sc__law_right.nd rfl (Or.inr rfl) (pe_lst pa_nil))
      (pss_one (ps_if (pt_cmpR op_isN (pe_lamN (N := ["pot", "value", "text", "deep", "odd", "place", "sign", "some", "other", "told", "bad"]) (pe_cgL (P := PT) (T := [(PT, "_law_right.<locals>.<lambda>")]) G__law_caught (hr.mono (by first | decide | omega)) hG (by rfl) T.g__law_caught T.F__law_caught.kp T.b__law_caught TB rfl (List.mem_singleton.mpr rfl) (fun p hp _ => by rw [List.mem_singleton.mp hp]; rfl) (by rfl) (by intro y hy e; simp only [List.mem_cons, List.not_mem_nil, or_false] at hy; rcases hy with rfl | rfl | rfl <;> first | (cases e; done) | exact ⟨rfl, .inl rfl⟩ | exact ⟨rfl, .inr rfl⟩) pa_nil) rfl rfl rfl (by intro y hy e; simp only [List.mem_cons, List.not_mem_nil, or_false] at hy; rcases hy with rfl | rfl | rfl <;> first | (cases e; done) | exact .inl rfl | exact .inr rfl)) pe_non (nomark _)) (pss_one (ps_if (PW.pt (pw_or (pt_cmpR (op_eqNil hr.units) (pv 9) (pe_lst pa_nil) (nomark _)) (pw_or (pt_cmpR op_ne (pe_cg G__law_text (hr.mono (by first | decide | omega)) hG (by rfl) T.g__law_text T.F__law_text.kp T.b__law_text pass0 (pa_cons (pe_ix ix_list (pv 9) pe_int (fun _ _ => rfl)) pa_nil)) (pv 8) (nomark _)) (pw_or1 (pt_not (pt_val (pe_callB call_isi (by rfl) T.n_isinstance (by decide +kernel) (pa_cons (pe_ix ix_list (pv 9) pe_int (fun _ _ => rfl)) (pa_cons (pe_bltn (v := .ty "tuple") (by rfl) T.n_tuple (by decide +kernel) rfl) pa_nil))))))))) (pss_one (ps_ret pe_bl)) pss_nil)) (pss_one (ps_if (pt_not (pt_val (pe_lamN (N := ["pot", "value", "text", "deep", "odd", "place", "sign", "some", "other", "told", "bad"]) (pe_cgL (P := PT) (T := [(PT, "_law_right.<locals>.<lambda>")]) G__law_is_refused (hr.mono (by first | decide | omega)) hG (by rfl) T.g__law_is_refused T.F__law_is_refused.kp T.b__law_is_refused TB rfl (List.mem_singleton.mpr rfl) (fun p hp _ => by rw [List.mem_singleton.mp hp]; rfl) (by rfl) (by intro y hy e; simp only [List.mem_cons, List.not_mem_nil, or_false] at hy; rcases hy with rfl | rfl <;> first | (cases e; done) | exact ⟨rfl, .inl rfl⟩ | exact ⟨rfl, .inr rfl⟩) (pa_cons (pv 8) pa_nil)) rfl rfl rfl (by intro y hy e; simp only [List.mem_cons, List.not_mem_nil, or_false] at hy; rcases hy with rfl | rfl <;> first | (cases e; done) | exact .inl rfl | exact .inr rfl)))) (pss_one (ps_ret pe_bl)) pss_nil))))))
      (pss_cons (ps_set (i := 10) sc__law_right.nd rfl (Or.inl rfl) (pe_lst (pa_cons (pe_slice sl_str (pv 2) po_none (po_some (pe_un un_neg pe_int))) (pa_cons (pe_op op_add_str (pv 2) pe_str) (pa_cons (pe_op op_add_str pe_str (pv 2)) (pa_cons pe_str (pa_cons pe_str (pa_cons pe_str (pa_cons pe_str (pa_cons pe_str (pa_cons pe_str (pa_cons pe_str (pa_cons pe_str (pa_cons (pe_cg G__law_text (hr.mono (by first | decide | omega)) hG (by rfl) T.g__law_text T.F__law_text.kp T.b__law_text pass0 (pa_cons (pv 3) pa_nil)) pa_nil))))))))))))))
      (pss_cons (ps_if (pt_not (pt_val (pe_callB (cr_all rfl) (by rfl) T.n_all (by decide +kernel) (pa_cons (pe_lc (own := [("other", 8)]) (g := gName 8) (tt := tYes) (by rfl) sc__law_right.nd (pi_list (pv 10)) (blkOk_by (own := [("other", 8)]) (N := ["pot", "value", "text", "deep", "odd", "place", "sign", "some", "other", "told", "bad"]) (sc := defScope s__law_right) (by decide +kernel)) (fun _ _ _ _ _ => pg_name (i := 8) sc__law_right.nd rfl (by first | exact Or.inl rfl | exact Or.inr rfl | exact Or.inr (Or.inl rfl))) (fun _ _ _ _ _ => pts_nil) (fun _ _ _ _ _ => (pe_lamN (N := ["pot", "value", "text", "deep", "odd", "place", "sign", "some", "other", "told", "bad"]) (pe_cgL (P := PT) (T := [(PT, "_law_right.<locals>.<lambda>")]) G__law_is_refused (hr.mono (by first | decide | omega)) hG (by rfl) T.g__law_is_refused T.F__law_is_refused.kp T.b__law_is_refused TB rfl (List.mem_singleton.mpr rfl) (fun p hp _ => by rw [List.mem_singleton.mp hp]; rfl) (by rfl) (by intro y hy e; simp only [List.mem_cons, List.not_mem_nil, or_false] at hy; rcases hy with rfl | rfl <;> first | (cases e; done) | exact ⟨rfl, .inl rfl⟩ | exact ⟨rfl, .inr rfl⟩) (pa_cons (pv 8) pa_nil)) rfl rfl rfl (by intro y hy e; simp only [List.mem_cons, List.not_mem_nil, or_false] at hy; rcases hy with rfl | rfl <;> first | (cases e; done) | exact .inl rfl | exact .inr rfl)))) pa_nil)))) (pss_one (ps_ret pe_bl)) pss_nil)
      (pss_one (ps_ret (pe_callB (cr_all rfl) (by rfl) T.n_all (by decide +kernel) (pa_cons (pe_lc (own := [("odd", 4)]) (g := gName 4) (tt := tYes) (by rfl) sc__law_right.nd (pi_tup (pe_tup (pa_cons pe_non (pa_cons (pv 1) (pa_cons pe_int (pa_cons (pe_lst (pa_cons (pv 2) pa_nil)) (pa_cons (pe_cg G__law_value (hr.mono (by first | decide | omega)) hG (by rfl) T.g__law_value T.F__law_value.kp T.b__law_value pass0 (pa_cons (pv 0) (pa_cons pe_int pa_nil))) pa_nil))))))) (blkOk_by (own := [("odd", 4)]) (N := ["pot", "value", "text", "deep", "odd", "place", "sign", "some", "other", "told", "bad"]) (sc := defScope s__law_right) (by decide +kernel)) (fun _ _ _ _ _ => pg_name (i := 4) sc__law_right.nd rfl (by first | exact Or.inl rfl | exact Or.inr rfl | exact Or.inr (Or.inl rfl))) (fun _ _ _ _ _ => pts_nil) (fun _ _ _ _ _ => (pe_lamN (N := ["pot", "value", "text", "deep", "odd", "place", "sign", "some", "other", "told", "bad"]) (pe_cgL (P := PT) (T := [(PT, "_law_right.<locals>.<lambda>")]) G__law_is_refused (hr.mono (by first | decide | omega)) hG (by rfl) T.g__law_is_refused T.F__law_is_refused.kp T.b__law_is_refused TB rfl (List.mem_singleton.mpr rfl) (fun p hp _ => by rw [List.mem_singleton.mp hp]; rfl) (by rfl) (by intro y hy e; simp only [List.mem_cons, List.not_mem_nil, or_false] at hy; rcases hy with rfl | rfl <;> first | (cases e; done) | exact ⟨rfl, .inl rfl⟩ | exact ⟨rfl, .inr rfl⟩) (pa_cons (pv 4) pa_nil)) rfl rfl rfl (by intro y hy e; simp only [List.mem_cons, List.not_mem_nil, or_false] at hy; rcases hy with rfl | rfl <;> first | (cases e; done) | exact .inl rfl | exact .inr rfl)))) pa_nil)))))))))))))))), ?_⟩
    refine ⟨.ref p, rfl, .ref p, rfl, 4, by decide, p, n, rfl, hp, (by show n + 727 < _; omega), fun v1 xs1 ds1 H1 nv1 ev1 t1 val1 b1 hp1 => ?_⟩
    refine ⟨.ref p, rfl, 2, by decide, p, _, rfl, hp1, (by show n + 727 + 79 < _; omega), fun v2 xs2 ds2 H2 nv2 ev2 t2 val2 b2 hp2 => ?_⟩
    refine ⟨.ref p, rfl, .ref p, rfl, p, 12, _, rfl, hp2, (by show n + 727 + 79 < _; omega), by decide, by decide, fun j H3 j0 j1 b3 hp3 => ?_⟩
    obtain ⟨k, rfl⟩ : ∃ k : Nat, j = k := ⟨j.toNat, by omega⟩
    refine ⟨1, k, rfl, rfl, .inl ⟨_, rfl, p, _, k, (by rw [show (1 : Int) + (k : Int) = ((k + 1 : Nat) : Int) by omega]; rfl), by omega, hp3, (by show n + 727 + 79 + 1 + k + 1 < _; omega), fun v3 d3 H4 t3 dd3 b4 hp4 => ?_⟩⟩
    have b14 := (b2.trans b3).trans b4
    have b24 := b3.trans b4
    have T1 : TD H4 (.ref v1) (.tuple ds1) := (TD.tup ev1 t1).keepT (fun a xs e => hp3.kt b4 _ _ (hp2.kt b3 _ _ (hp1.kt b2 _ _ e))) _ _ (val_noL 4 _ val1)
    have T2 : TD H4 (.ref v2) (.tuple ds2) := (TD.tup ev2 t2).keepT (fun a xs e => hp3.kt b4 _ _ (hp2.kt b3 _ _ e)) _ _ (val_noL 2 _ val2)
    refine ⟨(by show 3 ≤ sizeLine; decide), fun a ha => ?_⟩
    have hap : a ≠ p := hp4.ne ha
    have s5 := same_upd (o := .lst [.ref v1, .ref v2, v3]) ha
    refine ⟨p, a, _, _, rfl, hp4.same s5, (by show n + 727 + 79 + 1 + k + 1 < _; omega), hap, SqL.of upd_same, (by simp), (by show 3 < 2 ^ 24; decide), fun x H5 hx b5 hp5 => ?_⟩
    have kt5 := (hp4.same s5).kt b5
    obtain ⟨d, td, nl, ne, bd⟩ : ∃ d, TD H5 x d ∧ noL d = true ∧ nest 12 d = true ∧ Bd 20 40000 d := by
      simp only [List.mem_cons, List.not_mem_nil, or_false] at hx
      rcases hx with rfl | rfl | rfl
      · exact ⟨_, (T1.same s5).keepT kt5 _ _ (val_noL 4 _ val1), val_noL 4 _ val1, nest_mono 5 _ (val_nest 4 _ val1) 12 (by decide), (val_bd 4 _ val1).mono (by decide) (by decide)⟩
      · exact ⟨_, (T2.same s5).keepT kt5 _ _ (val_noL 2 _ val2), val_noL 2 _ val2, nest_mono 3 _ (val_nest 2 _ val2) 12 (by decide), (val_bd 2 _ val2).mono (by decide) (by decide)⟩
      · exact ⟨_, (t3.same s5).keepT kt5 _ _ (deep_noL k _ dd3), deep_noL k _ dd3, by rw [deep_nest k _ dd3]; exact decide_eq_true (by omega), (deep_bd k _ dd3).mono (by omega) (by omega)⟩
    have sz1 : sz d < 2 ^ 20 := by have := bd.2.2.2.2.1; omega
    have tl1 : (textOf d).length < 2 ^ 19 := by have := bd.2.2.2.2.2.1; omega
    refine ⟨x, rfl, x, d, rfl, td, (by rw [nest_mono 12 d ne 16 (by decide), Bool.or_true]), (by omega), fun H6 s6 => ?_⟩
    refine ⟨_, rfl, x, d, rfl, .inl (td.same s6), sz1, ⟨fun _ => ⟨by omega, fun H7 s7 => ?_⟩, fun z => Bool.noConfusion (ne.symm.trans z)⟩⟩
    refine ⟨_, rfl, rfl, _, rfl, ite2 (fun e => absurd e (ne_self _)) fun _ => ?_⟩
    refine ⟨_, rfl, _, rfl, .str _, (fun z e => ?_), (fun z => absurd ((readP_text ne).symm.trans (z _ rfl)) (by simp))⟩
    obtain rfl := V.str.inj e
    refine ⟨tl1, fun d' hd' u H8 s8 tu nlu => ?_⟩
    obtain rfl : d = d' := Option.some.inj ((readP_text ne).symm.trans hd')
    obtain ⟨k1, k2, k3, k4, k5, k6, k7⟩ := bd
    have s68 := s7.trans s8
    refine ⟨_, d, rfl, tu.dp, k2, k3, (by omega), (by rw [sizeLine_eq]; omega), ?_⟩
    have nint : ∀ i, d = .int i → i.natAbs.log2 < 1920 := fun i z => by rw [z] at ne; cases ne
    refine ⟨nint, _, rfl, x, d, rfl, (td.same (s6.trans s68)).dp, k2, k3, (by omega), (by rw [sizeLine_eq]; omega), nint, rfl, _, rfl, ite2 (fun e => absurd e (ne_self _)) fun _ => ?_⟩
    have s58 := s6.trans s68
    have td8 := td.same s58
    have hp8 := hp5.same s58
    refine ⟨.ref p, rfl, .ref p, rfl, p, 3, _, rfl, hp8, (by show n + 727 + 79 + 1 + k + 1 + 1 < _; omega), by decide, by decide, fun j H9 j0 j1 b9 hp9 => ?_⟩
    obtain ⟨m, rfl⟩ : ∃ m : Nat, j = m := ⟨j.toNat, by omega⟩
    refine ⟨13, m, rfl, rfl, .inl ⟨_, rfl, p, _, 12 + m, (by rw [show (13 : Int) + (m : Int) = ((12 + m + 1 : Nat) : Int) by omega]; rfl), by omega, hp9, (by show n + 727 + 79 + 1 + k + 1 + 1 + 1 + (12 + m) + 1 < _; omega), fun vd dd H10 tdd ddd b10 hp10 => ?_⟩⟩
    have B10 : But p H H10 := ((((((b1.trans b14).trans (But.of s5)).trans b5).trans (But.of s58)).trans b9).trans b10)
    have td10 : TD H10 x d := (td8.keepT (hp8.kt b9) _ _ nl).keepT (hp9.kt b10) _ _ nl
    have hp10 : PotAt H10 p (n + 840) := hp10.mono (by show n + 727 + 79 + 1 + k + 1 + 1 + 1 + (12 + m) + 1 ≤ _; omega)
    have T10 := tabs_but hp B10 hT
    have nld := deep_noL _ _ ddd
    have bdd : Bd 20 40000 dd := (deep_bd _ _ ddd).mono (by omega) (by omega)
    have ned : nest 12 dd = false := by rw [deep_nest _ _ ddd 12]; exact decide_eq_false (by omega)
    obtain ⟨dds, rfl⟩ := deep_tup ddd
    obtain ⟨ds, rfl⟩ := nest_tup ne
    clear b1 b14 b5 b9 b10 hp1 hp2 hp3 hp4 hp5 hp8 hp9 s58 s6 s68 s7 s8 td td8 b24 b2 b3 b4 T1 T2 t1 t2 t3 dd3 val1 val2 hx kt5 s5 ha hap ev1 ev2 nv1 nv2 tu nlu hd' e
    refine ⟨vd, rfl, x, rfl, (by show 1 ≤ sizeLine; decide), fun a1 m1 => ⟨x, rfl, (by show 2 ≤ sizeLine; decide), fun a2 m2 => ⟨x, rfl, (by show 2 ≤ sizeLine; decide), fun a3 m3 => ⟨x, rfl, (by show 2 ≤ sizeLine; decide), fun a4 m4 => ⟨(by show 1 ≤ sizeLine; decide), fun a5 m5 => ⟨_, rfl, fun a6 m6 => ⟨(by show 9 ≤ sizeLine; decide), fun a7 m7 => ?_⟩⟩⟩⟩⟩⟩⟩
    obtain ⟨_, rfl, S17, t17, O17⟩ := odds7 td10 (show Bd 20 40000 (.tuple ds) from ⟨k1, k2, k3, k4, k5, k6, k7⟩) tdd bdd ned (fun i z => by cases z) m1 m2 m3 m4 m5 m6 m7
    have hne : ∀ {x y : Str}, (x == y) = false → (x == y) = false := fun h => h
    refine ⟨a7, rfl, ⟨_, SqT.of t17⟩, for_tup (K := K) (a := a7) (xs := [vd, .ref a1, .ref a2, .ref a3, .ref a4, .ref a5, .non, .str (textOf (.tuple ds)), .ref a6]) (fun i σ H' => ∃ u, σ = [some (.ref p), some x, some (.str (textOf (.tuple ds))), some vd, u, none, none, none, none, none, none] ∧ ExtN H10 H' ∧ H' a7 = some (.tup [vd, .ref a1, .ref a2, .ref a3, .ref a4, .ref a5, .non, .str (textOf (.tuple ds)), .ref a6]) ∧ (∀ y ∈ [vd, .ref a1, .ref a2, .ref a3, .ref a4, .ref a5, .non, .str (textOf (.tuple ds)), .ref a6], OddV K H' y) ∧ Tabs (lamT PT) H')
      ⟨none, rfl, .ofSame S17, t17, O17, T10.ext S17⟩ (fun i σ H' _ ⟨_, _, _, e, _⟩ => SqT.of e) ?_ ?_⟩
    · rintro i y σ H' hy ⟨u, rfl, eN, e7, O, TT⟩
      have Oy := O y (List.mem_of_getElem? hy)
      unfold gName
      refine rd_refIf TT G_paper_text T.g_paper_text T.F_paper_text.kp T.b_paper_text rfl rfl rfl rfl (i := 4) rfl rfl (.inr (.inl rfl)) (fun H1 e1 => ?_) Oy.1 fun H5 e5 T5 => ⟨_, rfl, eN.trans e5, e5.tup e7, fun y hy => (O y hy).extN e5, T5⟩
      obtain ⟨_, dy, i1, i2, i3⟩ := Oy
      exact refuses_paper (i1.extN e1) i2 i3
    · rintro σ H18 ⟨u, rfl, eN, -, -, T18⟩
      have bd : Bd 20 40000 (.tuple ds) := ⟨k1, k2, k3, k4, k5, k6, k7⟩
      have X18 : Xp p H H18 := (Xp.ofBut B10).trans (.ofN eN)
      have td18 := td10.extN eN
      have tdd18 := tdd.extN eN
      have hp18 := hp10.extN eN
      clear m1 m2 m3 m4 m5 m6 m7 S17 t17 O17 eN hp10 B10 td10 tdd hp T10 hT
      obtain ⟨tx, htx⟩ : ∃ tx, tx = textOf (.tuple ds) := ⟨_, rfl⟩
      rw [← htx]
      have ht : tx.length ≤ 40000 ∧ Sm tx := by rw [htx]; exact ⟨k6, sm_text _ k1⟩
      refine ⟨.ref p, rfl, _, rfl, _, rfl, sz_line (by omega), _, _, rfl, rfl, p, (tx.length : Int) + 1, _, rfl, hp18, (by omega), (by omega), (by omega), fun pl H19 pl0 pl1 b19 hp19 => ?_⟩
      refine ⟨.ref p, rfl, sz_line (by show 10 ≤ _; decide), fun a8 m8 => ?_⟩
      have hap8 : a8 ≠ p := hp19.ne m8
      refine ⟨p, a8, _, _, rfl, hp19.same (same_upd m8), (by omega), hap8, SqL.of upd_same, (by simp), (by show 10 < 2 ^ 24; decide), fun sg H20 hsg b20 hp20 => ?_⟩
      obtain ⟨g, rfl, hg1, hg2⟩ := sign_of hsg
      have B20 : But p H18 H20 := (b19.trans (But.of (same_upd m8))).trans b20
      have T20 := tabs_but hp18 B20 T18
      have td20 := td18.keepT (hp18.kt B20) _ _ nl
      have tdd20 := tdd18.keepT (hp18.kt B20) _ _ nld
      have X20 := X18.trans (.ofBut B20)
      clear b19 b20 hp19 m8 hap8 T18 td18 tdd18 X18 hsg B20 hp18
      have cl : ∀ lo hi, (cutS tx lo hi).length ≤ 40000 := fun lo hi => Nat.le_trans (cutS_length tx lo hi) ht.1
      have al : ∀ {a b : Str} {n m : Nat}, a.length ≤ n → b.length ≤ m → n + m ≤ 200000 → a.length + b.length ≤ sizeLine := fun h k l => sz_line (by omega)
      have la : ∀ {a b : Str} {n m : Nat}, a.length ≤ n → b.length ≤ m → (a ++ b).length ≤ n + m := fun h k => by rw [PySem.Str.length_append]; omega
      have l1 : (1 : Nat) ≤ 200000 := by decide
      have htl := ht.1
      have zt : tx.length ≤ sizeLine := sz_line (by omega)
      refine ⟨_, rfl, _, _, rfl, rfl, al (m := 1) htl (by decide) (by decide), _, rfl, _, _, rfl, rfl, al (n := 1) (by decide) htl (by decide), _, rfl, _, _, rfl, rfl, al (m := 1) htl (by decide) (by decide), _, rfl, _, _, rfl, rfl, al (n := 1) (by decide) htl (by decide), ?_⟩
      refine ⟨_, rfl, 1, rfl, _, rfl, tx, rfl, zt, ?_⟩
      refine ⟨_, rfl, _, rfl, pl, rfl, tx, rfl, zt, _, rfl, _, _, rfl, rfl, al (cl _ _) hg1 (by decide), ?_⟩
      refine ⟨_, rfl, _, rfl, pl, rfl, tx, rfl, zt, _, _, rfl, rfl, al (la (cl _ _) hg1) (cl _ _) (by decide), sz_line (by show 8 ≤ _; decide), fun a9 m9 => ?_⟩
      refine ⟨_, rfl, _, rfl, _, rfl, pl, rfl, tx, rfl, zt, _, rfl, _, rfl, pl, 1, rfl, rfl, _, rfl, tx, rfl, zt, _, _, rfl, rfl, al (cl _ _) (cl _ _) (by decide), ?_⟩
      have s9 := fun o => same_upd (o := o) m9
      refine ⟨vd, rfl, vd, _, rfl, tdd20.same (s9 _), (by rw [deep_nest _ _ ddd 16, decide_eq_true (show 12 + m + 1 ≤ 16 by omega), Bool.or_true]), (by have := bdd.2.2.2.2.2.1; omega), fun H22 s22 => ?_⟩
      refine ⟨sz_line (by show 7 ≤ _; decide), fun a10 m10 => ?_⟩
      have S22 := (s9 _).trans s22
      have e9 := s22 _ _ upd_same
      have ne9 : ∀ o, (upd H22 a10 o) a9 = _ := fun o => (same_upd (o := o) m10) _ _ e9
      refine ⟨a9, a10, _, _, rfl, rfl, ne9 _, upd_same, sz_line (by show 15 ≤ _; decide), fun a11 m11 => ?_⟩
      have S23 := fun o => S22.trans ((same_upd (o := o) m10))
      obtain ⟨L, hL⟩ : ∃ L, L = someT tx g (textOf (.tuple dds)) pl := ⟨_, rfl⟩
      have okL : ∀ s ∈ L, OkS s := by rw [hL]; exact okS_some ht ⟨bdd.2.2.2.2.2.1, sm_text _ bdd.1⟩ ⟨hg1, hg2⟩
      refine ⟨_, rfl, a11, rfl, ⟨_, SqL.of upd_same⟩, for_list (K := K) (a := a11) (xs := L.map V.str) (fun i σ H' => ∃ u8 u9, σ = [some (.ref p), some x, some (.str tx), some vd, u, some (.int pl), some (.str g), some (.ref a11), u8, u9, none] ∧ ExtN H20 H' ∧ H' a11 = some (.lst (L.map V.str)) ∧ Tabs (lamT PT) H')
        ⟨none, none, rfl, .ofSame ((S23 _).trans (same_upd m11)), by rw [hL]; exact upd_same, T20.ext ((S23 _).trans (same_upd m11))⟩ (fun i σ H' _ ⟨_, _, _, _, e, _⟩ => SqL.of e) ?_ ?_⟩
      · rintro i y σ H' hy ⟨u8, u9, rfl, eN, e11, TT⟩
        obtain ⟨s, hs, rfl⟩ := List.mem_map.mp (List.mem_of_getElem? hy)
        obtain ⟨sl, ss⟩ := okL s hs
        unfold gName
        refine ⟨(by show 0 ≤ sizeLine; decide), fun a12 m12 => ?_⟩
        dsimp only
        have s12 := same_upd (o := .lst []) m12
        refine rd_caughtIf (TT.ext s12) rfl rfl G_read_paper T.g_read_paper T.F_read_paper.kp T.b_read_paper rfl rfl rfl rfl rfl rfl rfl (fun _ => rfl) (i := 8) (j := 9) rfl rfl (.inr (.inl rfl)) rfl rfl (.inr (.inl rfl)) upd_same (by omega) T.x_bad (fun d' u' H4 hd' e4 T4 td4 nl4 h4 => ?_) fun hn H4 e4 T4 => ?_
        · obtain ⟨n1, rfl⟩ := readP_ok hd'
          obtain ⟨ds', rfl⟩ := nest_tup n1
          refine ⟨_, rfl, (by show 0 ≤ sizeLine; decide), fun b mb => ?_⟩
          have sb := same_upd (o := .lst []) mb
          refine ⟨a12, b, [u'], rfl, rfl, SqL.of (sb _ _ h4), SqL.of upd_same, _, rfl, ite2 (fun e => Bool.noConfusion e) fun _ => ?_⟩
          refine ⟨_, rfl, a12, [u'], 0, u', rfl, rfl, SqL.of (sb _ _ h4), rfl, u', _, rfl, td4.same sb, (by rw [nest_mono 12 _ n1 16 (by decide), Bool.or_true]), (by omega), fun H5 s5 => ⟨_, rfl, rfl, _, rfl, ite2 (fun e => absurd e (ne_self _)) fun _ => ?_⟩⟩
          obtain ⟨t, ty, et⟩ := ((td4.same sb).same s5).isTup (K := K)
          refine ⟨_, rfl, a12, [u'], 0, u', rfl, rfl, SqL.of (s5 _ _ (sb _ _ h4)), rfl, u', .ty "tuple", t, _, _, rfl, .ty _, ty, et, _, rfl, ?_⟩
          have kk : ∀ b o, H' b = some o → (∀ ps, o ≠ .tbl ps) → (upd H4 b (.lst [])) = (upd H4 b (.lst [])) := fun _ _ _ _ => rfl
          have eN5 : ExtN H' H5 := fun b o h n => s5 _ _ (sb _ _ (e4 b o (ne_of_none h m12) (s12 _ _ h) n))
          exact ⟨_, _, rfl, eN.trans eN5, eN5.lst e11, (T4.ext sb).ext s5⟩
        · refine rd_refIf T4 G_read_paper T.g_read_paper T.F_read_paper.kp T.b_read_paper rfl rfl rfl rfl (i := 8) rfl rfl (.inr (.inl rfl)) (fun H1 e1 => refuses_read (.str s) fun z e => by cases e; exact ⟨by omega, hn⟩) (RdV.str ss sl hn).1 fun H5 e5 T5 => ?_
          have eN5 : ExtN H' H5 := (ExtN.ofSame s12).trans (e4.trans e5)
          exact ⟨_, _, rfl, eN.trans eN5, eN5.lst e11, T5⟩
      · rintro σ H24 ⟨u8, u9, rfl, eN, -, T24⟩
        have X24 := X20.trans (.ofN eN)
        have td24 := td20.extN eN
        have tdd24 := tdd20.extN eN
        have hp24 := hp20.extN eN
        clear eN T20 td20 tdd20 X20 hp20 hL okL e9 ne9 m9 m10 m11 s22 S22 S23 s9
        refine ⟨_, rfl, 1, rfl, _, rfl, tx, rfl, zt, _, rfl, _, _, rfl, rfl, al (m := 1) htl (by decide) (by decide), _, rfl, _, _, rfl, rfl, al (n := 1) (by decide) htl (by decide), ?_⟩
        refine ⟨vd, rfl, vd, _, rfl, tdd24, (by rw [deep_nest _ _ ddd 16, decide_eq_true (show 12 + m + 1 ≤ 16 by omega), Bool.or_true]), (by have := bdd.2.2.2.2.2.1; omega), fun H25 s25 => ?_⟩
        refine ⟨sz_line (by show 12 ≤ _; decide), fun a13 m13 => ?_⟩
        have S26 := fun o => s25.trans (same_upd (o := o) m13)
        have hx : ∀ z, x ≠ .str z := fun z e => by rw [e] at td24; cases td24
        refine ⟨_, rfl, a13, rfl, ⟨_, SqL.of upd_same⟩, fun D hD => lcAll_list (T := lamT PT) (xs := (badT tx (textOf (.tuple dds))).map V.str) hD upd_same (by rw [sizeLine_eq]; show 12 < _; decide) (T24.ext (S26 _)) (fun y hy H1 Q1 eN tt k1 => ?_) (fun H27 eN27 T27 hD27 => ?_)⟩
        · have RY : RdV K H1 y := by
            rw [htx] at hy
            exact rd_bad bd bdd ned y hy
          exact rd_refused tt G_read_paper T.g_read_paper T.F_read_paper.kp T.b_read_paper rfl rfl rfl rfl (i := 8) rfl rfl (.inr (.inl rfl)) (fun H1 e1 => (RY.extN e1).refuses) RY.1 k1
        · refine ⟨D, _, rfl, SqL.of hD27, _, rfl, ?_⟩
          rw [all_rep]
          have X27 : Xp p H H27 := X24.trans (.ofN ((ExtN.ofSame (S26 _)).trans eN27))
          have E27 : ExtN H24 H27 := (ExtN.ofSame (S26 _)).trans eN27
          have td27 := td24.extN E27
          have hp27 := hp24.extN E27
          clear X24 td24 hp24 T24 tdd24 S26 s25 m13 hD eN27 hD27 E27
          refine ite2 (fun e => absurd e (by decide)) fun _ => ?_
          refine ⟨_, rfl, _, rfl, (by show 1 ≤ sizeLine; decide), fun a14 m14 => ?_⟩
          have s14 := fun o => same_upd (o := o) m14
          refine ⟨.ref p, rfl, 1, by decide, p, _, rfl, hp27.same (s14 _), (by show n + 840 + 1 + 1 + 25 < _; omega), fun v5 xs5 ds5 H28 nv5 ev5 t5 val5 b28 hp28 => ?_⟩
          have e14 := b28 a14 _ (hp27.ne m14) upd_same
          have hp14 := hp27.same (s14 (.lst [.str tx]))
          have td28 := (td27.same (s14 _)).keepT (hp14.kt b28) _ _ nl
          refine ⟨(by show 5 ≤ sizeLine; decide), fun a15 m15 => ?_⟩
          have s15 := fun o => same_upd (o := o) m15
          have X28 : Xp p H H28 := (X27.trans (.ofN (.ofSame (s14 (.lst [.str tx]))))).trans (.ofBut b28)
          have T28 : Tabs (lamT PT) H28 := tabs_but hp14 b28 (T27.ext (s14 _))
          refine ⟨a15, rfl, ⟨_, SqT.of upd_same⟩, fun D2 hD2 => lcAll_tup (T := lamT PT) (xs := [.non, x, .int 3, .ref a14, .ref v5]) hD2 upd_same (by rw [sizeLine_eq]; show 5 < _; decide) (T28.ext (s15 _)) (fun y hy H1 Q1 eN tt k1 => ?_) (fun H30 eN30 T30 hD30 => ?_)⟩
          · have RY : RdV K H1 y := by
              refine RdV.extN ?_ eN
              simp only [List.mem_cons, List.not_mem_nil, or_false] at hy
              rcases hy with rfl | rfl | rfl | rfl | rfl
              · exact .td (N := 20) .non (by unfold Bw; decide +kernel) (by decide) (fun i z => by cases z) (fun z e => by cases e)
              · exact .td (td28.same (s15 _)) (bd.bw.mono (by decide) (Nat.le_refl _)) (by decide) (fun i z => by cases z) (fun z e => by cases e)
              · exact .td (N := 20) (.int 3) (by unfold Bw; decide +kernel) (by decide) (fun i z => by cases z; decide) (fun z e => by cases e)
              · exact .td (.lst (s15 _ _ _ e14) (.cons (.str tx (by omega)) .nil)) ((bw_lst1 ((bw_str ht.2 (Nat.le_refl 1)).mono (N' := 400002) (Nat.le_refl 1) (by omega))).mono (by decide) (Nat.le_refl _)) (by decide) (fun i z => by cases z) (fun z e => by cases e)
              · exact .td ((TD.tup ev5 t5).same (s15 _)) ((val_bd 1 _ val5).bw.mono (by decide) (Nat.le_refl _)) (by decide) (fun i z => by cases z) (fun z e => by cases e)
            exact rd_refused tt G_read_paper T.g_read_paper T.F_read_paper.kp T.b_read_paper rfl rfl rfl rfl (i := 4) rfl rfl (.inr (.inl rfl)) (fun H1 e1 => (RY.extN e1).refuses) RY.1 k1
          · refine ⟨D2, _, rfl, SqL.of hD30, ?_⟩
            rw [all_rep]
            have E30 : ExtN H28 H30 := (ExtN.ofSame (s15 _)).trans eN30
            exact q H30 (X28.trans (.ofN E30)) ((hp28.extN E30).mono (by show n + 840 + 1 + 1 + 25 ≤ _; omega)) T30
end
end My

/-! The end of a law whose defs are told by FnG; what the head says of loose names is handed on. -/
namespace My
open PySem PySem.Spec PyProof.Rows L2
section
variable {P : Program} {w : World} {K : PySem.W.Frag} {mg mb : Str → Option Value} {k : Nat} {fa a : Addr} {fd : FuncData} {x : Str} {sp : Sp} {s : Shared} {vs : List Value} {ns : List Int}
/-- the call, from an abstract heap in which the script alone may stand -/
theorem call_at (H : Hp) (hO : Only H) (hS : SqL K H a (ns.map V.int)) (hok : HOk P w H s.heap) (hA : ∀ b, H b ≠ none → b = a) (hK : H a ≠ none → K.lookup a = none)
    (KX : K.In s.heap) (hns : s.heap.Ns mainGlobals mg) (hb : s.heap.Ns builtinsNs mb) (hbb : ∀ x : Str, x ≠ "__name__" → mb x = bootBuiltins x) (hlim : s.heap.NoLimit) (hg : s.gens = #[])
    (ha : s.heap.get? a = some { cls := .type "list", data := .seq vs.toArray }) (hr : Room k callerA)
    (F : ∀ base : Heap, K.In base → base.Ns mainGlobals mg → FnG P w K mg base CX0 k fa fd [x] sp) (hbind : ∀ (s : Shared) (u : Value), BindsTo s fd ⟨[u], []⟩ [(x, u)])
    (hsp : sp [.ref a] H (fun v _ => v = .bl true) fun _ _ _ => False) :
    codeAny (model P w) callerA (.call (.ref fa) ⟨[.ref a], []⟩) (fun r s' => r = .ok (.ret (.bool true)) ∧ OldK s.heap s'.heap ∧ s'.os = s.os ∧ AllBare s'.gens) s := by
  have other : ∀ {b : Addr} {o : Obj}, s.heap.get? b = some o → (∀ vs n, o.data ≠ .seq vs n) → H b = none := by
    intro b o e d
    cases q : H b with
    | none => rfl
    | some u =>
      obtain rfl := hA b (by rw [q]; simp)
      rw [ha] at e
      cases e
      exact absurd rfl (d _ _)
  have hide : ∀ {b : Addr} {m : Str → Option Value}, s.heap.Ns b m → (hidT s.heap H).Ns b m := by
    rintro b m ⟨o, es, ep, e, d, r⟩
    exact ⟨o, es, ep, hidT_get e (other e (fun vs n z => by rw [d] at z; cases z)), d, r⟩
  have hKb : K.In (hidT s.heap H) := by
    intro b o e
    refine hidT_get (KX b o e) ?_
    cases q : H b with
    | none => rfl
    | some u =>
      obtain rfl := hA b (by rw [q]; simp)
      rw [hK (by rw [q]; simp)] at e
      cases e
  have hM : Mod K mg (hidT s.heap H) := by
    obtain ⟨mc, h1, h2⟩ := hlim
    exact ⟨hKb, hide hns, ⟨mb, hide hb, hbb⟩, mc, hide h1, h2⟩
  have e0 : Env0 P w K mg (hidT s.heap H) callerA [] s H :=
    ⟨rfl, hM, fun b o e => of_hidT e, Nat.le_of_eq (hidT_size _ _), trivial, fun b z => absurd (show b ∈ ([] : List Addr) from z) (by simp), hok, .of_eq hg⟩
  refine codeAny_mono ((F _ hKb (hide hns)).run callerA [] s H ⟨[.ref a], []⟩ [.ref a] [.ref a] _ _ hr rfl e0 (hbind s (.ref a)) (.cons rfl .nil) hsp) ?_
  intro r s' h
  match r, h with
  | .error e, h => exact h.elim
  | .ok .next, h => exact h.elim
  | .ok .brk, h => exact h.elim
  | .ok .cont, h => exact h.elim
  | .ok (.ret u), h =>
    obtain ⟨v, H', os, bare, un, hok', r', q⟩ := h
    obtain rfl : v = .bl true := q
    obtain rfl : u = Value.bool true := r'
    refine ⟨rfl, OldK.of_keep fun b o e => ?_, os, bare⟩
    rcases hO b with z | ⟨ob, xs, z⟩
    · exact un.keep b o e z (fun y => absurd (show b ∈ ([] : List Addr) from y) (by simp)) (by simp)
    · obtain ⟨e1, _⟩ := hok b _ z
      obtain ⟨e2, _⟩ := hok' b _ (un.frzs b ob _ z)
      rw [e] at e1
      cases e1
      exact e2
theorem law_at (KX : K.In s.heap) (hns : s.heap.Ns mainGlobals mg) (hb : s.heap.Ns builtinsNs mb) (hbb : ∀ x : Str, x ≠ "__name__" → mb x = bootBuiltins x) (hlim : s.heap.NoLimit) (hg : s.gens = #[])
    (ha : s.heap.get? a = some { cls := .type "list", data := .seq vs.toArray }) (hi : IntsAre vs ns) (hl : ns.length ≤ sizeLine) (hr : Room k callerA)
    (F : ∀ base : Heap, K.In base → base.Ns mainGlobals mg → FnG P w K mg base CX0 k fa fd [x] sp) (hbind : ∀ (s : Shared) (u : Value), BindsTo s fd ⟨[u], []⟩ [(x, u)])
    (hsp : ∀ H : Hp, Only H → SqL K H a (ns.map V.int) → sp [.ref a] H (fun v _ => v = .bl true) fun _ _ _ => False) :
    codeAny (model P w) callerA (.call (.ref fa) ⟨[.ref a], []⟩) (fun r s' => r = .ok (.ret (.bool true)) ∧ OldK s.heap s'.heap ∧ s'.os = s.os ∧ AllBare s'.gens) s := by
  have rv := vals_ints hi
  cases hk : K.lookup a with
  | some o =>
    have e := KX a o hk
    rw [ha] at e
    cases e
    have hO : Only (fun _ => none) := fun b => .inl rfl
    have hS : SqL K (fun _ => none) a (ns.map V.int) := .inr ⟨_, vs.toArray, _, hk, rfl, rfl, rfl, by rw [List.size_toArray, hi.length]; exact hl, by simpa using rv⟩
    exact call_at _ hO hS (fun b u z => by cases (show (none : Option HO) = some u from z)) (fun b z => absurd rfl z) (fun z => absurd rfl z) KX hns hb hbb hlim hg ha hr F hbind (hsp _ hO hS)
  | none =>
    obtain ⟨H, hH⟩ : ∃ H : Hp, H = upd (fun _ => none) a (.frz { cls := .type "list", data := .seq vs.toArray } (.lst (ns.map V.int))) := ⟨_, rfl⟩
    have atA : H a = some (.frz { cls := .type "list", data := .seq vs.toArray } (.lst (ns.map V.int))) := by rw [hH]; exact upd_same
    have off : ∀ b, b ≠ a → H b = none := fun b n => by rw [hH, upd_ne n]
    have hO : Only H := fun b => by
      by_cases e : b = a
      · subst e; exact .inr ⟨_, _, atA⟩
      · exact .inl (off b e)
    have hS : SqL K H a (ns.map V.int) := .inl (.inr ⟨_, atA⟩)
    refine call_at H hO hS (fun b u z => ?_) (fun b z => ?_) (fun _ => hk) KX hns hb hbb hlim hg ha hr F hbind (hsp _ hO hS)
    · by_cases e : b = a
      · subst e
        rw [atA] at z
        cases z
        exact ⟨ha, by rw [List.length_map]; exact hl, vs, _, rv, ha⟩
      · rw [off b e] at z; cases z
    · by_cases e : b = a
      · exact e
      · exact absurd (off b e) z
end
/-- the goal that the head leaves -/
theorem walk_end {l : PySem.W.OpenLaw} {n k : Nat} {q : Program} {loose : List Str} {XP : (Str → Option Value) → Heap → Prop} {YP : World → Heap → Prop} {d : DefRec} {K : Params → PySem.W.Frag} {sp : World → Sp} {x : Str}
    (hn : l.most = some n) (hn2 : n ≤ sizeLine) (hdf : d.params.defaults = []) (hr : Room k callerA) (hY : ∀ (w : World) (h : Heap), YP w h → (K w.params).In h)
    (F : ∀ (w : World) (mg : Str → Option Value) (fa : Addr) (h : Heap), (K w.params).In h → h.Ns mainGlobals mg → XP mg h → mg d.name = some (.ref fa) →
      ∃ fd : FuncData, (∀ (s : Shared) (u : Value), BindsTo s fd ⟨[u], []⟩ [(x, u)]) ∧ ∀ base : Heap, (K w.params).In base → base.Ns mainGlobals mg → FnG l.prog w (K w.params) mg base CX0 k fa fd [x] (sp w))
    (hsp : ∀ (w : World) (H : Hp) (a : Addr) (ns : List Int), ns.length ≤ n → (∀ z ∈ ns, Builtin.Int.intBits z ≤ 1048576) → Only H → SqL (K w.params) H a (ns.map V.int) → sp w [.ref a] H (fun v _ => v = .bl true) fun _ _ _ => False) :
    PySem.W.WalkO q loose XP YP l.row.toRowW d [] (fun f vs => PySem.call f vs) := by
  refine Att.attach_callB hn hdf ?_
  intro w s₀ s₁ mg mb fa o pm cd doc a vs ns G Y ho hd hcd hmg hobj hints hlen hbits hg
  have KX := hY w _ Y
  obtain ⟨fd, hb, hF⟩ := F w mg fa _ KX G.T.g G.X hmg
  exact law_at KX G.T.g G.T.b G.T.builtins G.T.nolimit hg hobj hints (Nat.le_trans hlen hn2) hr hF hb (fun H hO hS => hsp w H a ns hlen hbits hO hS)
end My

/-! The end of a law whose defs make lambdas: the tables of their code objects are tracked from the start. -/
namespace My
open PySem PySem.Spec PyProof.Rows L2 LamX
abbrev tabO : Obj := { cls := .none, data := .fields #[] }
/-- code objects and their tables, as the head leaves them -/
structure TabsIn (K : PySem.W.Frag) (cs : List (Addr × Addr)) (h : Heap) : Prop where
  empty : ∀ p ∈ cs, h.get? p.2 = some tabO
  code : ∀ p ∈ cs, PySem.W.CodeHd h p.1 p.2
  off : ∀ p ∈ cs, K.lookup p.2 = none
section
variable {P : Program} {w : World} {K : PySem.W.Frag} {mg mb : Str → Option Value} {k : Nat} {fa a : Addr} {fd : FuncData} {x : Str} {sp : Sp} {s : Shared} {vs : List Value} {ns : List Int} {cs : List (Addr × Addr)}
/-- what may be tracked at the start -/
structure Start (K : PySem.W.Frag) (cs : List (Addr × Addr)) (a : Addr) (H : Hp) : Prop where
  tab : ∀ p ∈ cs, H p.2 = some (.tbl #[])
  kind : ∀ b o, H b = some o → (∃ p ∈ cs, b = p.2) ∨ (b = a ∧ ∃ ob xs, o = .frz ob (.lst xs))
  off : H a ≠ none → K.lookup a = none
theorem call_tab (H : Hp) (TI : TabsIn K cs s.heap) (hO : Start K cs a H) (hok : HOk P w H s.heap)
    (KX : K.In s.heap) (hns : s.heap.Ns mainGlobals mg) (hb : s.heap.Ns builtinsNs mb) (hbb : ∀ x : Str, x ≠ "__name__" → mb x = bootBuiltins x) (hlim : s.heap.NoLimit) (hg : s.gens = #[])
    (hbm : ∃ (bm : Addr) (ob : Obj), mg "__builtins__" = some (.ref bm) ∧ bm ≠ builtinsNs ∧ s.heap.get? bm = some ob ∧ ob.cls = .type "module" ∧ ob.dict = some builtinsNs ∧ ob.data = .plain)
    (ha : s.heap.get? a = some { cls := .type "list", data := .seq vs.toArray }) (hr : Room k callerA)
    (F : ∀ base : Heap, K.In base → base.Ns mainGlobals mg → (∀ p ∈ cs, TabB base mg p.1 p.2) → FnG P w K mg base CX0 k fa fd [x] sp) (hbind : ∀ (s : Shared) (u : Value), BindsTo s fd ⟨[u], []⟩ [(x, u)])
    (hsp : sp [.ref a] H (fun v _ => v = .bl true) fun _ _ _ => False) :
    codeAny (model P w) callerA (.call (.ref fa) ⟨[.ref a], []⟩) (fun r s' => r = .ok (.ret (.bool true)) ∧ OldK s.heap s'.heap ∧ s'.os = s.os ∧ AllBare s'.gens) s := by
  -- no list, no empty record: not tracked
  have un : ∀ {b : Addr} {o : Obj}, s.heap.get? b = some o → (∀ us n, o.data ≠ .seq us n) → o.data ≠ .fields #[] → H b = none := fun {b o} e h1 h2 => by
    cases q : H b with
    | none => rfl
    | some u =>
      rcases hO.kind b u q with ⟨p, hp, rfl⟩ | ⟨rfl, _⟩
      · rw [TI.empty p hp] at e; cases e; exact absurd rfl h2
      · rw [ha] at e; cases e; exact absurd rfl (h1 _ _)
  have hid : ∀ {b : Addr} {o : Obj}, s.heap.get? b = some o → (∀ us n, o.data ≠ .seq us n) → o.data ≠ .fields #[] → (hidT s.heap H).get? b = some o := fun e h1 h2 => hidT_get e (un e h1 h2)
  have ns_ : ∀ {b : Addr} {m : Str → Option Value}, s.heap.Ns b m → (hidT s.heap H).Ns b m := by
    rintro b m ⟨o, es, ep, e, d, r⟩
    exact ⟨o, es, ep, hid e (fun _ _ z => by rw [d] at z; cases z) (fun z => by rw [d] at z; cases z), d, r⟩
  have hKb : K.In (hidT s.heap H) := fun b o e => hidT_get (KX b o e) (by
    cases q : H b with
    | none => rfl
    | some u =>
      rcases hO.kind b u q with ⟨p, hp, rfl⟩ | ⟨rfl, _⟩
      · rw [TI.off p hp] at e; cases e
      · rw [hO.off (by rw [q]; simp)] at e; cases e)
  have hM : Mod K mg (hidT s.heap H) := by
    obtain ⟨mc, h1, h2⟩ := hlim
    exact ⟨hKb, ns_ hns, ⟨mb, ns_ hb, hbb⟩, mc, ns_ h1, h2⟩
  have notNs : ∀ {b : Addr} {m : Str → Option Value} {o : Obj}, s.heap.Ns b m → s.heap.get? b = some o → (∀ es ep, o.data ≠ .dict es ep) → False := by
    rintro b m o ⟨o', es, ep, e, d, _⟩ e2 nd
    rw [e2] at e; cases e
    exact nd _ _ d
  have TB : ∀ p ∈ cs, TabB (hidT s.heap H) mg p.1 p.2 := fun p hp => by
    obtain ⟨o, us, file, tf, flags, tg, inF, text, tt, e1, r1, r2, r3, r⟩ := TI.code p hp
    obtain ⟨bm, ob, b1, b2, b3, b4, b5, b6⟩ := hbm
    refine ⟨⟨o, us, file, tf, flags, tg, inF, text, tt, hid e1 (fun _ _ z => by rw [r2] at z; cases z) (fun z => ?_), r1, r2, r3, r⟩, ⟨bm, ob, b1, b2, ?_, ?_, hid b3 (fun _ _ z => by rw [b6] at z; cases z) (fun z => by rw [b6] at z; cases z), b4, b5, b6⟩, fun z => ?_⟩
    · rw [r2] at z
      cases z
      simp at r3
    · rintro rfl
      exact notNs hns b3 fun _ _ z => by rw [b6] at z; cases z
    · rintro rfl
      rw [TI.empty p hp] at b3
      cases b3
      cases b6
    · exact notNs (z ▸ hns) (TI.empty p hp) fun _ _ y => by cases y
  have e0 : Env0 P w K mg (hidT s.heap H) callerA [] s H :=
    ⟨rfl, hM, fun b o e => of_hidT e, Nat.le_of_eq (hidT_size _ _), trivial, fun b z => absurd (show b ∈ ([] : List Addr) from z) (by simp), hok, .of_eq hg⟩
  refine codeAny_mono ((F _ hKb (ns_ hns) TB).run callerA [] s H ⟨[.ref a], []⟩ [.ref a] [.ref a] _ _ hr rfl e0 (hbind s (.ref a)) (.cons rfl .nil) hsp) fun r s' h => ?_
  match r, h with
  | .ok (.ret u), h =>
    obtain ⟨v, H', os, bare, U, hok', rv, q⟩ := h
    obtain rfl : v = .bl true := q
    obtain rfl : u = Value.bool true := rv
    have now : ∀ b o, s.heap.get? b = some o → (∃ p ∈ cs, b = p.2) ∨ s'.heap.get? b = some o := fun b o e => by
      cases q : H b with
      | none => exact .inr (U.keep b o e q (fun z => absurd (show b ∈ ([] : List Addr) from z) (by simp)) (by simp))
      | some u =>
        rcases hO.kind b u q with y | ⟨_, ob, xs, rfl⟩
        · exact .inl y
        · obtain ⟨e1, _⟩ := hok b _ q
          obtain ⟨e2, _⟩ := hok' b _ (U.frzs b ob _ q)
          rw [e] at e1; cases e1
          exact .inr e2
    have grown : ∀ p ∈ cs, ∃ more : Array Value, s'.heap.get? p.2 = some { cls := .none, data := .fields more } := fun p hp => by
      obtain ⟨more, z⟩ := U.tbls p.2 #[] (hO.tab p hp)
      exact ⟨_, hok' p.2 _ z⟩
    refine ⟨rfl, ⟨fun b o e => ?_, fun b o e => ?_⟩, os, bare⟩
    · rcases now b o e with ⟨p, hp, rfl⟩ | y
      · obtain ⟨more, hm⟩ := grown p hp
        rw [TI.empty p hp] at e
        cases e
        exact .inr (.inl ⟨((TI.code p hp).tab (TI.empty p hp)).isCodeTable, rfl, #[], more, rfl, by simpa using hm⟩)
      · exact .inl y
    · rcases now b o e with ⟨p, hp, rfl⟩ | y
      · obtain ⟨more, hm⟩ := grown p hp
        exact ⟨_, hm⟩
      · exact ⟨o, y⟩
theorem law_tab (TI : TabsIn K cs s.heap) (KX : K.In s.heap) (hns : s.heap.Ns mainGlobals mg) (hb : s.heap.Ns builtinsNs mb) (hbb : ∀ x : Str, x ≠ "__name__" → mb x = bootBuiltins x) (hlim : s.heap.NoLimit) (hg : s.gens = #[])
    (hbm : ∃ (bm : Addr) (ob : Obj), mg "__builtins__" = some (.ref bm) ∧ bm ≠ builtinsNs ∧ s.heap.get? bm = some ob ∧ ob.cls = .type "module" ∧ ob.dict = some builtinsNs ∧ ob.data = .plain)
    (ha : s.heap.get? a = some { cls := .type "list", data := .seq vs.toArray }) (hi : IntsAre vs ns) (hl : ns.length ≤ sizeLine) (hr : Room k callerA)
    (F : ∀ base : Heap, K.In base → base.Ns mainGlobals mg → (∀ p ∈ cs, TabB base mg p.1 p.2) → FnG P w K mg base CX0 k fa fd [x] sp) (hbind : ∀ (s : Shared) (u : Value), BindsTo s fd ⟨[u], []⟩ [(x, u)])
    (hsp : ∀ H : Hp, (∀ p ∈ cs, H p.2 = some (.tbl #[])) → SqL K H a (ns.map V.int) → sp [.ref a] H (fun v _ => v = .bl true) fun _ _ _ => False) :
    codeAny (model P w) callerA (.call (.ref fa) ⟨[.ref a], []⟩) (fun r s' => r = .ok (.ret (.bool true)) ∧ OldK s.heap s'.heap ∧ s'.os = s.os ∧ AllBare s'.gens) s := by
  have rv := vals_ints hi
  have aT : ∀ p ∈ cs, p.2 ≠ a := fun p hp z => by
    have y := TI.empty p hp
    rw [z, ha] at y
    cases y
  obtain ⟨HT, defT⟩ : ∃ HT : Hp, HT = fun b => if b ∈ cs.map (·.2) then some (.tbl #[]) else none := ⟨_, rfl⟩
  have inT : ∀ p ∈ cs, HT p.2 = some (.tbl #[]) := fun p hp => by rw [defT]; exact if_pos (List.mem_map.mpr ⟨p, hp, rfl⟩)
  have ofT : ∀ b o, HT b = some o → (∃ p ∈ cs, b = p.2) ∧ o = .tbl #[] := fun b o e => by
    rw [defT] at e
    by_cases hb : b ∈ cs.map (·.2)
    · have e2 := (if_pos hb).symm.trans e
      obtain ⟨p, hp, rfl⟩ := List.mem_map.mp hb
      cases e2
      exact ⟨⟨p, hp, rfl⟩, rfl⟩
    · cases (if_neg hb).symm.trans e
  have offA : HT a = none := by
    cases q : HT a with
    | none => rfl
    | some u =>
      obtain ⟨⟨p, hp, e⟩, _⟩ := ofT a u q
      exact absurd e.symm (aT p hp)
  cases hk : K.lookup a with
  | some o =>
    have e := KX a o hk
    rw [ha] at e
    cases e
    refine call_tab HT TI ⟨inT, fun b o e => .inl (ofT b o e).1, fun z => absurd offA z⟩ (fun b u z => ?_) KX hns hb hbb hlim hg hbm ha hr F hbind (hsp _ inT (.inr ⟨_, vs.toArray, _, hk, rfl, rfl, rfl, by rw [List.size_toArray, hi.length]; exact hl, by simpa using rv⟩))
    obtain ⟨⟨p, hp, rfl⟩, rfl⟩ := ofT b u z
    exact TI.empty p hp
  | none =>
    obtain ⟨H, hH⟩ : ∃ H : Hp, H = upd HT a (.frz { cls := .type "list", data := .seq vs.toArray } (.lst (ns.map V.int))) := ⟨_, rfl⟩
    have atA : H a = some (.frz { cls := .type "list", data := .seq vs.toArray } (.lst (ns.map V.int))) := by rw [hH]; exact upd_same
    have off : ∀ b, b ≠ a → H b = HT b := fun b n => by rw [hH, upd_ne n]
    have tb : ∀ p ∈ cs, H p.2 = some (.tbl #[]) := fun p hp => by rw [off _ (aT p hp)]; exact inT p hp
    refine call_tab H TI ⟨tb, fun b o e => ?_, fun _ => hk⟩ (fun b u z => ?_) KX hns hb hbb hlim hg hbm ha hr F hbind (hsp _ tb (.inl (.inr ⟨_, atA⟩)))
    · by_cases y : b = a
      · subst y
        rw [atA] at e; cases e
        exact .inr ⟨rfl, _, _, rfl⟩
      · rw [off b y] at e
        exact .inl (ofT b o e).1
    · by_cases y : b = a
      · subst y
        rw [atA] at z; cases z
        exact ⟨ha, by rw [List.length_map]; exact hl, vs, _, rv, ha⟩
      · rw [off b y] at z
        obtain ⟨⟨p, hp, rfl⟩, rfl⟩ := ofT b u z
        exact TI.empty p hp
end
/-- the goal that the head leaves, where defs make lambdas -/
theorem walk_tab {l : PySem.W.OpenLaw} {n k : Nat} {q : Program} {loose : List Str} {XP : (Str → Option Value) → Heap → Prop} {YP : World → Heap → Prop} {d : DefRec} {K : Params → PySem.W.Frag} {sp : World → Sp} {x : Str} {cs : World → List (Addr × Addr)}
    (hn : l.most = some n) (hn2 : n ≤ sizeLine) (hdf : d.params.defaults = []) (hr : Room k callerA) (hY : ∀ (w : World) (h : Heap), YP w h → (K w.params).In h)
    (F : ∀ (w : World) (mg : Str → Option Value) (fa : Addr) (h : Heap), YP w h → (K w.params).In h → h.Ns mainGlobals mg → XP mg h → mg d.name = some (.ref fa) →
      ∃ fd : FuncData, TabsIn (K w.params) (cs w) h ∧ (∀ (s : Shared) (u : Value), BindsTo s fd ⟨[u], []⟩ [(x, u)]) ∧ ∀ base : Heap, (K w.params).In base → base.Ns mainGlobals mg → (∀ p ∈ cs w, TabB base mg p.1 p.2) → FnG l.prog w (K w.params) mg base CX0 k fa fd [x] (sp w))
    (hsp : ∀ (w : World) (H : Hp) (a : Addr) (ns : List Int), ns.length ≤ n → (∀ z ∈ ns, Builtin.Int.intBits z ≤ 1048576) → (∀ p ∈ cs w, H p.2 = some (.tbl #[])) → SqL (K w.params) H a (ns.map V.int) → sp w [.ref a] H (fun v _ => v = .bl true) fun _ _ _ => False) :
    PySem.W.WalkO q loose XP YP l.row.toRowW d [] (fun f vs => PySem.call f vs) := by
  refine Att.attach_callB hn hdf ?_
  intro w s₀ s₁ mg mb fa o pm cd doc a vs ns G Y ho hd hcd hmg hobj hints hlen hbits hg
  have KX := hY w _ Y
  obtain ⟨fd, TI, hb, hF⟩ := F w mg fa _ Y KX G.T.g G.X hmg
  exact law_tab TI KX G.T.g G.T.b G.T.builtins G.T.nolimit hg G.T.bmain hobj hints (Nat.le_trans hlen hn2) hr hF hb fun H hH hS => hsp w H a ns hlen hbits hH hS
end My

/-! The end, where a def makes lambdas; what is told of own exceptions. -/
namespace My
open PySem PySem.Spec PyProof.Rows L2 LamX
theorem mk_tab {P : Program} {w : World} {K : PySem.W.Frag} {mg : Str → Option Value} {k : Nat} {fa c T : Addr} {x : Str} {sp : Addr → Sp} {h : Heap} {oc : Value} {od : Option Addr} {us : Array Value} {sl : Array (Option Value)}
    (F : ∃ fd : FuncData, (∀ (s : Shared) (u : Value), BindsTo s fd ⟨[u], []⟩ [(x, u)]) ∧ ∀ base : Heap, K.In base → base.Ns mainGlobals mg → ∀ PT : Addr, TabB base mg c PT → FnG P w K mg base CX0 k fa fd [x] (sp PT))
    (hv : K.lookup c = some ⟨oc, od, .fields us, sl⟩) (hP : us[11]? = some (.ref T)) (e : h.get? T = some tabO) (hc : PySem.W.CodeHd h c T) (off : K.lookup T = none) :
    ∃ fd : FuncData, TabsIn K [(c, T)] h ∧ (∀ (s : Shared) (u : Value), BindsTo s fd ⟨[u], []⟩ [(x, u)]) ∧ ∀ base : Heap, K.In base → base.Ns mainGlobals mg → (∀ p ∈ [(c, T)], TabB base mg p.1 p.2) → FnG P w K mg base CX0 k fa fd [x] (sp T) := by
  obtain ⟨fd, b, F⟩ := F
  refine ⟨fd, ⟨fun p hp => ?_, fun p hp => ?_, fun p hp => ?_⟩, b, fun base X G TB => F base X G T (TB (c, T) (List.mem_singleton.mpr rfl))⟩
  all_goals (rw [List.mem_singleton.mp hp]; assumption)
/-- one table -/
theorem walk_tab1 {l : PySem.W.OpenLaw} {n k : Nat} {q : Program} {loose : List Str} {XP : (Str → Option Value) → Heap → Prop} {YP : World → Heap → Prop} {d : DefRec} {K : Params → PySem.W.Frag} {spl : PySem.W.Frag → Addr → Sp} {x : Str} (c T : Addr)
    (hn : l.most = some n) (hn2 : n ≤ sizeLine) (hdf : d.params.defaults = []) (hr : Room k callerA) (hY : ∀ (w : World) (h : Heap), YP w h → (K w.params).In h)
    (F : ∀ (w : World) (mg : Str → Option Value) (fa : Addr) (h : Heap), YP w h → (K w.params).In h → h.Ns mainGlobals mg → XP mg h → mg d.name = some (.ref fa) →
      ∃ fd : FuncData, TabsIn (K w.params) [(c, T)] h ∧ (∀ (s : Shared) (u : Value), BindsTo s fd ⟨[u], []⟩ [(x, u)]) ∧ ∀ base : Heap, (K w.params).In base → base.Ns mainGlobals mg → (∀ p ∈ [(c, T)], TabB base mg p.1 p.2) → FnG l.prog w (K w.params) mg base CX0 k fa fd [x] (spl (K w.params) T))
    (hsp : ∀ (w : World) (H : Hp) (a : Addr) (ns : List Int), ns.length ≤ n → (∀ z ∈ ns, Builtin.Int.intBits z ≤ 1048576) → (∀ p ∈ [(c, T)], H p.2 = some (.tbl #[])) → SqL (K w.params) H a (ns.map V.int) → spl (K w.params) T [.ref a] H (fun v _ => v = .bl true) fun _ _ _ => False) :
    PySem.W.WalkO q loose XP YP l.row.toRowW d [] (fun f vs => PySem.call f vs) :=
  walk_tab (cs := fun _ => [(c, T)]) (sp := fun w => spl (K w.params) T) hn hn2 hdf hr hY F hsp
end My

namespace My
open PySem PySem.Spec PyProof.Rows L2 LamX
/-- law(script) -/
def spLaw (K : PySem.W.Frag) (PT : Addr) : Sp := fun vs H Q _ => ∃ (a : Addr) (ns : List Int), vs = [.ref a] ∧ SqL K H a (ns.map V.int) ∧ ns.length ≤ 63 ∧ (∀ z ∈ ns, Builtin.Int.intBits z ≤ 1048576) ∧ Tabs (lamT PT) H ∧ ∀ H', Q (.bl true) H'
/-- an empty table -/
theorem tab_start {H : Hp} {c PT : Addr} (h : ∀ p ∈ [(c, PT)], H p.2 = some (.tbl #[])) : TabS H PT "_law_right.<locals>.<lambda>" :=
  ⟨#[], h (c, PT) (List.mem_singleton.mpr rfl), by first | trivial | decide | exact .nil | simp [TriplesOk], fun pos cv e => by cases e⟩
theorem tabs_start {H : Hp} {c PT : Addr} (h : ∀ p ∈ [(c, PT)], H p.2 = some (.tbl #[])) : Tabs (lamT PT) H := fun p hp => by
  rw [List.mem_singleton.mp hp]; exact tab_start h
theorem SqL.extN {K : PySem.W.Frag} {H H' : Hp} {a : Addr} {xs : List V} (h : SqL K H a xs) (e : ExtN H H') : SqL K H' a xs := by
  rcases h with (h | ⟨o, h⟩) | h
  · exact .inl (.inl (e.lst h))
  · exact .inl (.inr ⟨o, e _ _ h fun ps z => by cases z⟩)
  · exact .inr h
section
variable {P : Program} {w : World} {K : PySem.W.Frag} {mg : Str → Option Value} {base : Heap} {A : Nat → Addr} {D : Nat → FuncData} {PT : Addr}
theorem ok_law (T : Txt P K mg A D) (TB : TabB base mg (A 43) PT) : FnG P w K mg base CX0 21 (A 22) (D 22) ["script"] (spLaw K PT) := by
  have G__law_cells := ok_cells (P := P) (w := w) (base := base) T
  have G__law_pot := ok_pot (P := P) (w := w) (base := base) T
  have G__law_right := ok_right (P := P) (w := w) (base := base) T TB
  refine def_ok0 T.F_law sc_law (fun vs H Q E h => ?_) (fun cdv Ar outer s H vs Q E hr hG h => ?_)
  · obtain ⟨a, ns, rfl, _⟩ := h; rfl
  · obtain ⟨a, ns, rfl, hS, hl, hb, hT, q⟩ := h
    refine ⟨_, (pss_cons (ps_for (by first | exact PassesOwn.never | exact PassesOwn.leaving | exact L2.passes_of rfl) rfl (pi_list (pe_cg G__law_cells (hr.mono (by first | decide | omega)) hG (by rfl) T.g__law_cells T.F__law_cells.kp T.b__law_cells pass0 (pa_cons (pv 0) (pa_cons pe_int pa_nil)))) (pg_name (i := 1) sc_law.nd rfl (Or.inl rfl)) (pss_cons (ps_set (i := 2) sc_law.nd rfl (Or.inr rfl) (pe_cg G__law_pot (hr.mono (by first | decide | omega)) hG (by rfl) T.g__law_pot T.F__law_pot.kp T.b__law_pot pass0 (pa_cons (pv 0) (pa_cons (pv 1) pa_nil))))
      (pss_one (ps_if (pt_not (pt_val (pe_callB (cr_all rfl) (by rfl) T.n_all (by decide +kernel) (pa_cons (pe_lc (own := [("lap", 3)]) (g := gName 3) (tt := tYes) (by rfl) sc_law.nd (pi_range1 rfl T.n_range (pa_cons pe_int pa_nil)) (blkOk_by (own := [("lap", 3)]) (N := ["script", "place", "pot", "lap"]) (sc := defScope s_law) (by decide +kernel)) (fun _ _ _ _ _ => pg_name (i := 3) sc_law.nd rfl (by first | exact Or.inl rfl | exact Or.inr rfl | exact Or.inr (Or.inl rfl))) (fun _ _ _ _ _ => pts_nil) (fun _ _ _ _ _ => (pe_cg G__law_right (hr.mono (by first | decide | omega)) hG (by rfl) T.g__law_right T.F__law_right.kp T.b__law_right pass0 (pa_cons (pv 2) pa_nil)))) pa_nil)))) (pss_one (ps_ret pe_bl)) pss_nil))))
      (pss_one (ps_ret pe_bl))), ?_⟩
    refine ⟨_, rfl, a, ns, 4, rfl, hS, hl, by decide, by decide, fun c H1 m s1 hc m1 m2 e1 => ?_⟩
    have T1 := hT.ext s1
    refine ⟨c, rfl, ⟨_, SqL.of e1⟩, for_list (K := K) (a := c) (xs := rgV 0 m) (fun i σ H' => ∃ u1 u2, σ = [some (.ref a), u1, u2, none] ∧ ExtN H1 H' ∧ Tabs (lamT PT) H') ⟨none, none, rfl, .refl _, T1⟩ (fun i σ H' _ ⟨_, _, _, s, _⟩ => SqL.of (s.lst e1)) ?_ ?_⟩
    · rintro i x σ H2 hx ⟨u1, u2, rfl, s2, T2⟩
      obtain ⟨k, rfl, hk⟩ : ∃ k : Nat, x = .int (0 + (k : Int)) ∧ k < m.toNat := by
        obtain ⟨k, hk, rfl⟩ := List.mem_map.mp (List.mem_of_getElem? hx)
        exact ⟨k, rfl, by have := List.mem_range.mp hk; omega⟩
      refine ⟨_, rfl, _, rfl, a, ns, 0 + (k : Int), rfl, SqL.extN (s1.seq hS) s2, hl, hb, by omega, by omega, fun p H3 s3 hp0 hp => ?_⟩
      have T3 := T2.ext s3
      refine ⟨4, rfl, by decide, by decide, fun D hD => lc_range (lo := 0) (n := 4) (vs := [3]) (fun i H' => H' D = some (.lst ((List.replicate i true).map V.bl)) ∧ PotAt H' p (1000 * i) ∧ Xp p H3 H' ∧ Tabs (lamT PT) H') ⟨upd_same, hp.same (same_upd hD), .ofBut (But.of (same_upd hD)), T3.ext (same_upd hD)⟩ ?_ ?_⟩
      · rintro j H4 hj ⟨hl4, hp4, b4, T4⟩
        have hDp : D ≠ p := hp.ne hD
        refine ⟨rfl, _, rfl, p, 1000 * j, rfl, hp4, by omega, T4, fun H5 b5 hp5 T5 => ?_⟩
        have l5 := b5 D _ hDp hl4 fun ps z => by cases z
        refine ⟨_, l5, ?_, ?_, ?_, ?_, tabs_upd l5 T5⟩
        · rw [List.length_map, List.length_replicate, sizeLine_eq]; omega
        · rw [upd_same, List.replicate_succ', List.map_append]; rfl
        · obtain ⟨o1, s1, c1, e1, e2⟩ := hp5
          exact ⟨o1, s1, c1, by rw [upd_ne hDp.symm]; exact e1, e2⟩
        · intro b o ne e n
          rw [upd_ne (ne_of_none e hD)]
          exact (b4.trans b5) b o ne e n
      · rintro H4 ⟨hl4, hp4, b4, T4⟩
        refine ⟨_, List.replicate 4 true, rfl, SqL.of hl4, _, rfl, ?_⟩
        refine ⟨_, _, rfl, fun b o e n => ?_, T4⟩
        have e2 := s2 _ _ e n
        exact b4 _ _ (ne_of_none e2 hp0) (s3 _ _ e2) n
    · rintro σ H2 ⟨u1, u2, rfl, s2, _⟩
      exact q _
end
end My

namespace My
open PySem PySem.Spec PyProof.Rows L2
/-! ### what the top has written; the law's own head -/
theorem all_mk {P : Program} {w : World} {K : PySem.W.Frag} {h : Heap} {mg : Str → Option Value} {fa : Addr} (X : K.In h) (G : h.Ns mainGlobals mg) (hfa : mg "law" = some (.ref fa))
    {f0 : Addr} {od0 an0 : Option Addr} {sl0 : Array (Option Value)} {oc0 kV0 dc0 pm0 cd0 ct0 : Value}
    {f1 : Addr} {od1 an1 : Option Addr} {sl1 : Array (Option Value)} {oc1 kV1 dc1 pm1 cd1 ct1 : Value}
    {f2 : Addr} {od2 an2 : Option Addr} {sl2 : Array (Option Value)} {oc2 kV2 dc2 pm2 cd2 ct2 : Value}
    {f3 : Addr} {od3 an3 : Option Addr} {sl3 : Array (Option Value)} {oc3 kV3 dc3 pm3 cd3 ct3 : Value}
    {f4 : Addr} {od4 an4 : Option Addr} {sl4 : Array (Option Value)} {oc4 kV4 dc4 pm4 cd4 ct4 : Value}
    {f5 : Addr} {od5 an5 : Option Addr} {sl5 : Array (Option Value)} {oc5 kV5 dc5 pm5 cd5 ct5 : Value}
    {f6 : Addr} {od6 an6 : Option Addr} {sl6 : Array (Option Value)} {oc6 kV6 dc6 pm6 cd6 ct6 : Value}
    {f7 : Addr} {od7 an7 : Option Addr} {sl7 : Array (Option Value)} {oc7 kV7 dc7 pm7 cd7 ct7 : Value}
    {f8 : Addr} {od8 an8 : Option Addr} {sl8 : Array (Option Value)} {oc8 kV8 dc8 pm8 cd8 ct8 : Value}
    {f9 : Addr} {od9 an9 : Option Addr} {sl9 : Array (Option Value)} {oc9 kV9 dc9 pm9 cd9 ct9 : Value}
    {f10 : Addr} {od10 an10 : Option Addr} {sl10 : Array (Option Value)} {oc10 kV10 dc10 pm10 cd10 ct10 : Value}
    {f11 : Addr} {od11 an11 : Option Addr} {sl11 : Array (Option Value)} {oc11 kV11 dc11 pm11 cd11 ct11 : Value}
    {f12 : Addr} {od12 an12 : Option Addr} {sl12 : Array (Option Value)} {oc12 kV12 dc12 pm12 cd12 ct12 : Value}
    {f13 : Addr} {od13 an13 : Option Addr} {sl13 : Array (Option Value)} {oc13 kV13 dc13 pm13 cd13 ct13 : Value}
    {f14 : Addr} {od14 an14 : Option Addr} {sl14 : Array (Option Value)} {oc14 kV14 dc14 pm14 cd14 ct14 : Value}
    {f15 : Addr} {od15 an15 : Option Addr} {sl15 : Array (Option Value)} {oc15 kV15 dc15 pm15 cd15 ct15 : Value}
    {f16 : Addr} {od16 an16 : Option Addr} {sl16 : Array (Option Value)} {oc16 kV16 dc16 pm16 cd16 ct16 : Value}
    {f17 : Addr} {od17 an17 : Option Addr} {sl17 : Array (Option Value)} {oc17 kV17 dc17 pm17 cd17 ct17 : Value}
    {f18 : Addr} {od18 an18 : Option Addr} {sl18 : Array (Option Value)} {oc18 kV18 dc18 pm18 cd18 ct18 : Value}
    {f19 : Addr} {od19 an19 : Option Addr} {sl19 : Array (Option Value)} {oc19 kV19 dc19 pm19 cd19 ct19 : Value}
    {f20 : Addr} {od20 an20 : Option Addr} {sl20 : Array (Option Value)} {oc20 kV20 dc20 pm20 cd20 ct20 : Value}
    {f21 : Addr} {od21 an21 : Option Addr} {sl21 : Array (Option Value)} {oc21 kV21 dc21 pm21 cd21 ct21 : Value}
    {f22 : Addr} {od22 an22 : Option Addr} {sl22 : Array (Option Value)} {oc22 kV22 dc22 pm22 cd22 ct22 : Value}
    {v_SMALL : Value}
    {v_FIGURES : Value}
    {v_MOST_FIGURES : Value}
    {v_MINUS : Value}
    {v_DOT : Value}
    {v_OPENING : Value}
    {v_CLOSING : Value}
    {v_BRACKETS : Value}
    {v_NONE : Value}
    {v_EMPTY : Value}
    {v_BLANK : Value}
    {v_MOST_DEEP : Value}
    {eL : Addr}
    {eI : Addr}
    {eB : Addr}
    {eC : Addr}
    (a0 : PySem.W.nsIn K mainGlobals "is_integer" = some (some (.ref f0)))
    (l0 : K.lookup f0 = some ⟨oc0, od0, .func (PySem.W.fnOf "is_integer" "is_integer" (defArgs s_is_integer) (defBody s_is_integer) (defScope s_is_integer) .none kV0 dc0 pm0 an0 cd0 ct0), sl0⟩)
    (c0 : PySem.W.codeIn K cd0 "is_integer" = true) (k0 : PySem.W.keepIn K (.ref f0) = true)
    (a1 : PySem.W.nsIn K mainGlobals "read_integer" = some (some (.ref f1)))
    (l1 : K.lookup f1 = some ⟨oc1, od1, .func (PySem.W.fnOf "read_integer" "read_integer" (defArgs s_read_integer) (defBody s_read_integer) (defScope s_read_integer) .none kV1 dc1 pm1 an1 cd1 ct1), sl1⟩)
    (c1 : PySem.W.codeIn K cd1 "read_integer" = true) (k1 : PySem.W.keepIn K (.ref f1) = true)
    (a2 : PySem.W.nsIn K mainGlobals "is_sign_word" = some (some (.ref f2)))
    (l2 : K.lookup f2 = some ⟨oc2, od2, .func (PySem.W.fnOf "is_sign_word" "is_sign_word" (defArgs s_is_sign_word) (defBody s_is_sign_word) (defScope s_is_sign_word) .none kV2 dc2 pm2 an2 cd2 ct2), sl2⟩)
    (c2 : PySem.W.codeIn K cd2 "is_sign_word" = true) (k2 : PySem.W.keepIn K (.ref f2) = true)
    (a3 : PySem.W.nsIn K mainGlobals "is_part" = some (some (.ref f3)))
    (l3 : K.lookup f3 = some ⟨oc3, od3, .func (PySem.W.fnOf "is_part" "is_part" (defArgs s_is_part) (defBody s_is_part) (defScope s_is_part) .none kV3 dc3 pm3 an3 cd3 ct3), sl3⟩)
    (c3 : PySem.W.codeIn K cd3 "is_part" = true) (k3 : PySem.W.keepIn K (.ref f3) = true)
    (a4 : PySem.W.nsIn K mainGlobals "can_be_told" = some (some (.ref f4)))
    (l4 : K.lookup f4 = some ⟨oc4, od4, .func (PySem.W.fnOf "can_be_told" "can_be_told" (defArgs s_can_be_told) (defBody s_can_be_told) (defScope s_can_be_told) .none kV4 dc4 pm4 an4 cd4 ct4), sl4⟩)
    (c4 : PySem.W.codeIn K cd4 "can_be_told" = true) (k4 : PySem.W.keepIn K (.ref f4) = true)
    (a5 : PySem.W.nsIn K mainGlobals "part_text" = some (some (.ref f5)))
    (l5 : K.lookup f5 = some ⟨oc5, od5, .func (PySem.W.fnOf "part_text" "part_text" (defArgs s_part_text) (defBody s_part_text) (defScope s_part_text) .none kV5 dc5 pm5 an5 cd5 ct5), sl5⟩)
    (c5 : PySem.W.codeIn K cd5 "part_text" = true) (k5 : PySem.W.keepIn K (.ref f5) = true)
    (a6 : PySem.W.nsIn K mainGlobals "text_of" = some (some (.ref f6)))
    (l6 : K.lookup f6 = some ⟨oc6, od6, .func (PySem.W.fnOf "text_of" "text_of" (defArgs s_text_of) (defBody s_text_of) (defScope s_text_of) .none kV6 dc6 pm6 an6 cd6 ct6), sl6⟩)
    (c6 : PySem.W.codeIn K cd6 "text_of" = true) (k6 : PySem.W.keepIn K (.ref f6) = true)
    (a7 : PySem.W.nsIn K mainGlobals "paper_text" = some (some (.ref f7)))
    (l7 : K.lookup f7 = some ⟨oc7, od7, .func (PySem.W.fnOf "paper_text" "paper_text" (defArgs s_paper_text) (defBody s_paper_text) (defScope s_paper_text) .none kV7 dc7 pm7 an7 cd7 ct7), sl7⟩)
    (c7 : PySem.W.codeIn K cd7 "paper_text" = true) (k7 : PySem.W.keepIn K (.ref f7) = true)
    (a8 : PySem.W.nsIn K mainGlobals "words_in" = some (some (.ref f8)))
    (l8 : K.lookup f8 = some ⟨oc8, od8, .func (PySem.W.fnOf "words_in" "words_in" (defArgs s_words_in) (defBody s_words_in) (defScope s_words_in) .none kV8 dc8 pm8 an8 cd8 ct8), sl8⟩)
    (c8 : PySem.W.codeIn K cd8 "words_in" = true) (k8 : PySem.W.keepIn K (.ref f8) = true)
    (a9 : PySem.W.nsIn K mainGlobals "part_in" = some (some (.ref f9)))
    (l9 : K.lookup f9 = some ⟨oc9, od9, .func (PySem.W.fnOf "part_in" "part_in" (defArgs s_part_in) (defBody s_part_in) (defScope s_part_in) .none kV9 dc9 pm9 an9 cd9 ct9), sl9⟩)
    (c9 : PySem.W.codeIn K cd9 "part_in" = true) (k9 : PySem.W.keepIn K (.ref f9) = true)
    (a10 : PySem.W.nsIn K mainGlobals "tuple_in" = some (some (.ref f10)))
    (l10 : K.lookup f10 = some ⟨oc10, od10, .func (PySem.W.fnOf "tuple_in" "tuple_in" (defArgs s_tuple_in) (defBody s_tuple_in) (defScope s_tuple_in) .none kV10 dc10 pm10 an10 cd10 ct10), sl10⟩)
    (c10 : PySem.W.codeIn K cd10 "tuple_in" = true) (k10 : PySem.W.keepIn K (.ref f10) = true)
    (a11 : PySem.W.nsIn K mainGlobals "read_paper" = some (some (.ref f11)))
    (l11 : K.lookup f11 = some ⟨oc11, od11, .func (PySem.W.fnOf "read_paper" "read_paper" (defArgs s_read_paper) (defBody s_read_paper) (defScope s_read_paper) .none kV11 dc11 pm11 an11 cd11 ct11), sl11⟩)
    (c11 : PySem.W.codeIn K cd11 "read_paper" = true) (k11 : PySem.W.keepIn K (.ref f11) = true)
    (a12 : PySem.W.nsIn K mainGlobals "_law_pot" = some (some (.ref f12)))
    (l12 : K.lookup f12 = some ⟨oc12, od12, .func (PySem.W.fnOf "_law_pot" "_law_pot" (defArgs s__law_pot) (defBody s__law_pot) (defScope s__law_pot) .none kV12 dc12 pm12 an12 cd12 ct12), sl12⟩)
    (c12 : PySem.W.codeIn K cd12 "_law_pot" = true) (k12 : PySem.W.keepIn K (.ref f12) = true)
    (a13 : PySem.W.nsIn K mainGlobals "_law_take" = some (some (.ref f13)))
    (l13 : K.lookup f13 = some ⟨oc13, od13, .func (PySem.W.fnOf "_law_take" "_law_take" (defArgs s__law_take) (defBody s__law_take) (defScope s__law_take) .none kV13 dc13 pm13 an13 cd13 ct13), sl13⟩)
    (c13 : PySem.W.codeIn K cd13 "_law_take" = true) (k13 : PySem.W.keepIn K (.ref f13) = true)
    (a14 : PySem.W.nsIn K mainGlobals "_law_of" = some (some (.ref f14)))
    (l14 : K.lookup f14 = some ⟨oc14, od14, .func (PySem.W.fnOf "_law_of" "_law_of" (defArgs s__law_of) (defBody s__law_of) (defScope s__law_of) .none kV14 dc14 pm14 an14 cd14 ct14), sl14⟩)
    (c14 : PySem.W.codeIn K cd14 "_law_of" = true) (k14 : PySem.W.keepIn K (.ref f14) = true)
    (a15 : PySem.W.nsIn K mainGlobals "_law_cells" = some (some (.ref f15)))
    (l15 : K.lookup f15 = some ⟨oc15, od15, .func (PySem.W.fnOf "_law_cells" "_law_cells" (defArgs s__law_cells) (defBody s__law_cells) (defScope s__law_cells) .none kV15 dc15 pm15 an15 cd15 ct15), sl15⟩)
    (c15 : PySem.W.codeIn K cd15 "_law_cells" = true) (k15 : PySem.W.keepIn K (.ref f15) = true)
    (a16 : PySem.W.nsIn K mainGlobals "_law_value" = some (some (.ref f16)))
    (l16 : K.lookup f16 = some ⟨oc16, od16, .func (PySem.W.fnOf "_law_value" "_law_value" (defArgs s__law_value) (defBody s__law_value) (defScope s__law_value) .none kV16 dc16 pm16 an16 cd16 ct16), sl16⟩)
    (c16 : PySem.W.codeIn K cd16 "_law_value" = true) (k16 : PySem.W.keepIn K (.ref f16) = true)
    (a17 : PySem.W.nsIn K mainGlobals "_law_deep" = some (some (.ref f17)))
    (l17 : K.lookup f17 = some ⟨oc17, od17, .func (PySem.W.fnOf "_law_deep" "_law_deep" (defArgs s__law_deep) (defBody s__law_deep) (defScope s__law_deep) .none kV17 dc17 pm17 an17 cd17 ct17), sl17⟩)
    (c17 : PySem.W.codeIn K cd17 "_law_deep" = true) (k17 : PySem.W.keepIn K (.ref f17) = true)
    (a18 : PySem.W.nsIn K mainGlobals "_law_text" = some (some (.ref f18)))
    (l18 : K.lookup f18 = some ⟨oc18, od18, .func (PySem.W.fnOf "_law_text" "_law_text" (defArgs s__law_text) (defBody s__law_text) (defScope s__law_text) .none kV18 dc18 pm18 an18 cd18 ct18), sl18⟩)
    (c18 : PySem.W.codeIn K cd18 "_law_text" = true) (k18 : PySem.W.keepIn K (.ref f18) = true)
    (a19 : PySem.W.nsIn K mainGlobals "_law_caught" = some (some (.ref f19)))
    (l19 : K.lookup f19 = some ⟨oc19, od19, .func (PySem.W.fnOf "_law_caught" "_law_caught" (defArgs s__law_caught) (defBody s__law_caught) (defScope s__law_caught) .none kV19 dc19 pm19 an19 cd19 ct19), sl19⟩)
    (c19 : PySem.W.codeIn K cd19 "_law_caught" = true) (k19 : PySem.W.keepIn K (.ref f19) = true)
    (a20 : PySem.W.nsIn K mainGlobals "_law_is_refused" = some (some (.ref f20)))
    (l20 : K.lookup f20 = some ⟨oc20, od20, .func (PySem.W.fnOf "_law_is_refused" "_law_is_refused" (defArgs s__law_is_refused) (defBody s__law_is_refused) (defScope s__law_is_refused) .none kV20 dc20 pm20 an20 cd20 ct20), sl20⟩)
    (c20 : PySem.W.codeIn K cd20 "_law_is_refused" = true) (k20 : PySem.W.keepIn K (.ref f20) = true)
    (a21 : PySem.W.nsIn K mainGlobals "_law_right" = some (some (.ref f21)))
    (l21 : K.lookup f21 = some ⟨oc21, od21, .func (PySem.W.fnOf "_law_right" "_law_right" (defArgs s__law_right) (defBody s__law_right) (defScope s__law_right) .none kV21 dc21 pm21 an21 cd21 ct21), sl21⟩)
    (c21 : PySem.W.codeIn K cd21 "_law_right" = true) (k21 : PySem.W.keepIn K (.ref f21) = true)
    (a22 : PySem.W.nsIn K mainGlobals "law" = some (some (.ref f22)))
    (l22 : K.lookup f22 = some ⟨oc22, od22, .func (PySem.W.fnOf "law" "law" (defArgs s_law) (defBody s_law) (defScope s_law) .none kV22 dc22 pm22 an22 cd22 ct22), sl22⟩)
    (c22 : PySem.W.codeIn K cd22 "law" = true) (k22 : PySem.W.keepIn K (.ref f22) = true)
    (n_len : PySem.W.nsIn K mainGlobals "len" = some none)
    (n_int : PySem.W.nsIn K mainGlobals "int" = some none)
    (n_bool : PySem.W.nsIn K mainGlobals "bool" = some none)
    (n_str : PySem.W.nsIn K mainGlobals "str" = some none)
    (n_tuple : PySem.W.nsIn K mainGlobals "tuple" = some none)
    (n_list : PySem.W.nsIn K mainGlobals "list" = some none)
    (n_abs : PySem.W.nsIn K mainGlobals "abs" = some none)
    (n_max : PySem.W.nsIn K mainGlobals "max" = some none)
    (n_min : PySem.W.nsIn K mainGlobals "min" = some none)
    (n_sum : PySem.W.nsIn K mainGlobals "sum" = some none)
    (n_all : PySem.W.nsIn K mainGlobals "all" = some none)
    (n_isinstance : PySem.W.nsIn K mainGlobals "isinstance" = some none)
    (n_range : PySem.W.nsIn K mainGlobals "range" = some none)
    (n_repr : PySem.W.nsIn K mainGlobals "repr" = some none)
    (n_ValueError : PySem.W.nsIn K mainGlobals "ValueError" = some none)
    (c_SMALL : PySem.W.nsIn K mainGlobals "SMALL" = some (some v_SMALL)) (r_SMALL : RelV (.str "abcdefghijklmnopqrstuvwxyz") v_SMALL)
    (c_FIGURES : PySem.W.nsIn K mainGlobals "FIGURES" = some (some v_FIGURES)) (r_FIGURES : RelV (.str "0123456789") v_FIGURES)
    (c_MOST_FIGURES : PySem.W.nsIn K mainGlobals "MOST_FIGURES" = some (some v_MOST_FIGURES)) (r_MOST_FIGURES : RelV (.int 300) v_MOST_FIGURES)
    (c_MINUS : PySem.W.nsIn K mainGlobals "MINUS" = some (some v_MINUS)) (r_MINUS : RelV (.str "-") v_MINUS)
    (c_DOT : PySem.W.nsIn K mainGlobals "DOT" = some (some v_DOT)) (r_DOT : RelV (.str ".") v_DOT)
    (c_OPENING : PySem.W.nsIn K mainGlobals "OPENING" = some (some v_OPENING)) (r_OPENING : RelV (.str "(") v_OPENING)
    (c_CLOSING : PySem.W.nsIn K mainGlobals "CLOSING" = some (some v_CLOSING)) (r_CLOSING : RelV (.str ")") v_CLOSING)
    (c_BRACKETS : PySem.W.nsIn K mainGlobals "BRACKETS" = some (some v_BRACKETS)) (r_BRACKETS : RelV (.str "()") v_BRACKETS)
    (c_NONE : PySem.W.nsIn K mainGlobals "NONE" = some (some v_NONE)) (r_NONE : RelV (.str "!") v_NONE)
    (c_EMPTY : PySem.W.nsIn K mainGlobals "EMPTY" = some (some v_EMPTY)) (r_EMPTY : RelV (.str "-") v_EMPTY)
    (c_BLANK : PySem.W.nsIn K mainGlobals "BLANK" = some (some v_BLANK)) (r_BLANK : RelV (.str " ") v_BLANK)
    (c_MOST_DEEP : PySem.W.nsIn K mainGlobals "MOST_DEEP" = some (some v_MOST_DEEP)) (r_MOST_DEEP : RelV (.int 12) v_MOST_DEEP)
    (c_BEYOND : ∃ u, mg "BEYOND" = some u ∧ RelV (.int (10 ^ 300)) u)
    (base : PySem.LabX.BaseTxt P K eL eI) (lab : PySem.LabX.ClsTxt K eL eL eI) (bad : PySem.LabX.ClsTxt K eB eL eI)
    (g_LabError : PySem.W.nsIn K mainGlobals "LabError" = some (some (.ref eL))) (g_BadPaper : PySem.W.nsIn K mainGlobals "BadPaper" = some (some (.ref eB)))
    (x_bad : PySem.W.exmOne K (.ref eB) (.ref eL) = some true) (i_bad : PySem.W.kitOne K (.ref eB) (.type "ValueError") = some true) (code : cd21 = .ref eC) :
    ∃ fd : FuncData, (∀ (s : Shared) (v : Value), BindsTo s fd ⟨[v], []⟩ [("script", v)]) ∧ ∀ base : Heap, K.In base → base.Ns mainGlobals mg → ∀ PT : Addr, LamX.TabB base mg eC PT → FnG P w K mg base CX0 21 fa fd ["script"] (spLaw K PT) := by
  have e := V.ref.inj (show V.ref f22 = V.ref fa by have z := hfa.symm.trans (PySem.W.mg_of X G a22); cases z; rfl)
  subst e
  have F0 := fun_mk (st := s_is_integer) l0 c0 k0
  have F1 := fun_mk (st := s_read_integer) l1 c1 k1
  have F2 := fun_mk (st := s_is_sign_word) l2 c2 k2
  have F3 := fun_mk (st := s_is_part) l3 c3 k3
  have F4 := fun_mk (st := s_can_be_told) l4 c4 k4
  have F5 := fun_mk (st := s_part_text) l5 c5 k5
  have F6 := fun_mk (st := s_text_of) l6 c6 k6
  have F7 := fun_mk (st := s_paper_text) l7 c7 k7
  have F8 := fun_mk (st := s_words_in) l8 c8 k8
  have F9 := fun_mk (st := s_part_in) l9 c9 k9
  have F10 := fun_mk (st := s_tuple_in) l10 c10 k10
  have F11 := fun_mk (st := s_read_paper) l11 c11 k11
  have F12 := fun_mk (st := s__law_pot) l12 c12 k12
  have F13 := fun_mk (st := s__law_take) l13 c13 k13
  have F14 := fun_mk (st := s__law_of) l14 c14 k14
  have F15 := fun_mk (st := s__law_cells) l15 c15 k15
  have F16 := fun_mk (st := s__law_value) l16 c16 k16
  have F17 := fun_mk (st := s__law_deep) l17 c17 k17
  have F18 := fun_mk (st := s__law_text) l18 c18 k18
  have F19 := fun_mk (st := s__law_caught) l19 c19 k19
  have F20 := fun_mk (st := s__law_is_refused) l20 c20 k20
  have F21 := fun_mk (st := s__law_right) l21 c21 k21
  have F22 := fun_mk (st := s_law) l22 c22 k22
  have T : Txt P K mg (fun i => [f0, f1, f2, f3, f4, f5, f6, f7, f8, f9, f10, f11, f12, f13, f14, f15, f16, f17, f18, f19, f20, f21, f22, 0, 0, 0, 0, 0, 0, 0, 0, 0, 0, 0, 0, 0, 0, 0, 0, 0, eL, eI, eB, eC].getD i 0) (fun i => [(PySem.W.fnOf "is_integer" "is_integer" (defArgs s_is_integer) (defBody s_is_integer) (defScope s_is_integer) .none kV0 dc0 pm0 an0 cd0 ct0), (PySem.W.fnOf "read_integer" "read_integer" (defArgs s_read_integer) (defBody s_read_integer) (defScope s_read_integer) .none kV1 dc1 pm1 an1 cd1 ct1), (PySem.W.fnOf "is_sign_word" "is_sign_word" (defArgs s_is_sign_word) (defBody s_is_sign_word) (defScope s_is_sign_word) .none kV2 dc2 pm2 an2 cd2 ct2), (PySem.W.fnOf "is_part" "is_part" (defArgs s_is_part) (defBody s_is_part) (defScope s_is_part) .none kV3 dc3 pm3 an3 cd3 ct3), (PySem.W.fnOf "can_be_told" "can_be_told" (defArgs s_can_be_told) (defBody s_can_be_told) (defScope s_can_be_told) .none kV4 dc4 pm4 an4 cd4 ct4), (PySem.W.fnOf "part_text" "part_text" (defArgs s_part_text) (defBody s_part_text) (defScope s_part_text) .none kV5 dc5 pm5 an5 cd5 ct5), (PySem.W.fnOf "text_of" "text_of" (defArgs s_text_of) (defBody s_text_of) (defScope s_text_of) .none kV6 dc6 pm6 an6 cd6 ct6), (PySem.W.fnOf "paper_text" "paper_text" (defArgs s_paper_text) (defBody s_paper_text) (defScope s_paper_text) .none kV7 dc7 pm7 an7 cd7 ct7), (PySem.W.fnOf "words_in" "words_in" (defArgs s_words_in) (defBody s_words_in) (defScope s_words_in) .none kV8 dc8 pm8 an8 cd8 ct8), (PySem.W.fnOf "part_in" "part_in" (defArgs s_part_in) (defBody s_part_in) (defScope s_part_in) .none kV9 dc9 pm9 an9 cd9 ct9), (PySem.W.fnOf "tuple_in" "tuple_in" (defArgs s_tuple_in) (defBody s_tuple_in) (defScope s_tuple_in) .none kV10 dc10 pm10 an10 cd10 ct10), (PySem.W.fnOf "read_paper" "read_paper" (defArgs s_read_paper) (defBody s_read_paper) (defScope s_read_paper) .none kV11 dc11 pm11 an11 cd11 ct11), (PySem.W.fnOf "_law_pot" "_law_pot" (defArgs s__law_pot) (defBody s__law_pot) (defScope s__law_pot) .none kV12 dc12 pm12 an12 cd12 ct12), (PySem.W.fnOf "_law_take" "_law_take" (defArgs s__law_take) (defBody s__law_take) (defScope s__law_take) .none kV13 dc13 pm13 an13 cd13 ct13), (PySem.W.fnOf "_law_of" "_law_of" (defArgs s__law_of) (defBody s__law_of) (defScope s__law_of) .none kV14 dc14 pm14 an14 cd14 ct14), (PySem.W.fnOf "_law_cells" "_law_cells" (defArgs s__law_cells) (defBody s__law_cells) (defScope s__law_cells) .none kV15 dc15 pm15 an15 cd15 ct15), (PySem.W.fnOf "_law_value" "_law_value" (defArgs s__law_value) (defBody s__law_value) (defScope s__law_value) .none kV16 dc16 pm16 an16 cd16 ct16), (PySem.W.fnOf "_law_deep" "_law_deep" (defArgs s__law_deep) (defBody s__law_deep) (defScope s__law_deep) .none kV17 dc17 pm17 an17 cd17 ct17), (PySem.W.fnOf "_law_text" "_law_text" (defArgs s__law_text) (defBody s__law_text) (defScope s__law_text) .none kV18 dc18 pm18 an18 cd18 ct18), (PySem.W.fnOf "_law_caught" "_law_caught" (defArgs s__law_caught) (defBody s__law_caught) (defScope s__law_caught) .none kV19 dc19 pm19 an19 cd19 ct19), (PySem.W.fnOf "_law_is_refused" "_law_is_refused" (defArgs s__law_is_refused) (defBody s__law_is_refused) (defScope s__law_is_refused) .none kV20 dc20 pm20 an20 cd20 ct20), (PySem.W.fnOf "_law_right" "_law_right" (defArgs s__law_right) (defBody s__law_right) (defScope s__law_right) .none kV21 dc21 pm21 an21 cd21 ct21), (PySem.W.fnOf "law" "law" (defArgs s_law) (defBody s_law) (defScope s_law) .none kV22 dc22 pm22 an22 cd22 ct22)].getD i (PySem.W.fnOf "is_integer" "is_integer" (defArgs s_is_integer) (defBody s_is_integer) (defScope s_is_integer) .none kV0 dc0 pm0 an0 cd0 ct0)) :=
    { F_is_integer := F0,
      g_is_integer := PySem.W.mg_of X G a0,
      b_is_integer := F0.binds (ps := ["value"]) fun _ _ _ _ _ _ us hl => match us, hl with | [_], _ => rfl,
      F_read_integer := F1,
      g_read_integer := PySem.W.mg_of X G a1,
      b_read_integer := F1.binds (ps := ["word"]) fun _ _ _ _ _ _ us hl => match us, hl with | [_], _ => rfl,
      F_is_sign_word := F2,
      g_is_sign_word := PySem.W.mg_of X G a2,
      b_is_sign_word := F2.binds (ps := ["value"]) fun _ _ _ _ _ _ us hl => match us, hl with | [_], _ => rfl,
      F_is_part := F3,
      g_is_part := PySem.W.mg_of X G a3,
      b_is_part := F3.binds (ps := ["value"]) fun _ _ _ _ _ _ us hl => match us, hl with | [_], _ => rfl,
      F_can_be_told := F4,
      g_can_be_told := PySem.W.mg_of X G a4,
      b_can_be_told := F4.binds (ps := ["value"]) fun _ _ _ _ _ _ us hl => match us, hl with | [_], _ => rfl,
      F_part_text := F5,
      g_part_text := PySem.W.mg_of X G a5,
      b_part_text := F5.binds (ps := ["value"]) fun _ _ _ _ _ _ us hl => match us, hl with | [_], _ => rfl,
      F_text_of := F6,
      g_text_of := PySem.W.mg_of X G a6,
      b_text_of := F6.binds (ps := ["value"]) fun _ _ _ _ _ _ us hl => match us, hl with | [_], _ => rfl,
      F_paper_text := F7,
      g_paper_text := PySem.W.mg_of X G a7,
      b_paper_text := F7.binds (ps := ["paper"]) fun _ _ _ _ _ _ us hl => match us, hl with | [_], _ => rfl,
      kb_paper_text := kbind1 F7 (fun _ _ _ _ _ _ _ => rfl) (fun _ _ _ _ _ _ _ => rfl),
      F_words_in := F8,
      g_words_in := PySem.W.mg_of X G a8,
      b_words_in := F8.binds (ps := ["text"]) fun _ _ _ _ _ _ us hl => match us, hl with | [_], _ => rfl,
      F_part_in := F9,
      g_part_in := PySem.W.mg_of X G a9,
      b_part_in := F9.binds (ps := ["word"]) fun _ _ _ _ _ _ us hl => match us, hl with | [_], _ => rfl,
      F_tuple_in := F10,
      g_tuple_in := PySem.W.mg_of X G a10,
      b_tuple_in := F10.binds (ps := ["words"]) fun _ _ _ _ _ _ us hl => match us, hl with | [_], _ => rfl,
      F_read_paper := F11,
      g_read_paper := PySem.W.mg_of X G a11,
      b_read_paper := F11.binds (ps := ["text"]) fun _ _ _ _ _ _ us hl => match us, hl with | [_], _ => rfl,
      kb_read_paper := kbind1 F11 (fun _ _ _ _ _ _ _ => rfl) (fun _ _ _ _ _ _ _ => rfl),
      F__law_pot := F12,
      g__law_pot := PySem.W.mg_of X G a12,
      b__law_pot := F12.binds (ps := ["script", "place"]) fun _ _ _ _ _ _ us hl => match us, hl with | [_, _], _ => rfl,
      F__law_take := F13,
      g__law_take := PySem.W.mg_of X G a13,
      b__law_take := F13.binds (ps := ["pot", "upto"]) fun _ _ _ _ _ _ us hl => match us, hl with | [_, _], _ => rfl,
      F__law_of := F14,
      g__law_of := PySem.W.mg_of X G a14,
      b__law_of := F14.binds (ps := ["pot", "some"]) fun _ _ _ _ _ _ us hl => match us, hl with | [_, _], _ => rfl,
      F__law_cells := F15,
      g__law_cells := PySem.W.mg_of X G a15,
      b__law_cells := F15.binds (ps := ["script", "most"]) fun _ _ _ _ _ _ us hl => match us, hl with | [_, _], _ => rfl,
      F__law_value := F16,
      g__law_value := PySem.W.mg_of X G a16,
      b__law_value := F16.binds (ps := ["pot", "deep"]) fun _ _ _ _ _ _ us hl => match us, hl with | [_, _], _ => rfl,
      F__law_deep := F17,
      g__law_deep := PySem.W.mg_of X G a17,
      b__law_deep := F17.binds (ps := ["pot", "many"]) fun _ _ _ _ _ _ us hl => match us, hl with | [_, _], _ => rfl,
      F__law_text := F18,
      g__law_text := PySem.W.mg_of X G a18,
      b__law_text := F18.binds (ps := ["value"]) fun _ _ _ _ _ _ us hl => match us, hl with | [_], _ => rfl,
      F__law_caught := F19,
      g__law_caught := PySem.W.mg_of X G a19,
      b__law_caught := F19.binds (ps := ["call"]) fun _ _ _ _ _ _ us hl => match us, hl with | [_], _ => rfl,
      F__law_is_refused := F20,
      g__law_is_refused := PySem.W.mg_of X G a20,
      b__law_is_refused := F20.binds (ps := ["call", "value"]) fun _ _ _ _ _ _ us hl => match us, hl with | [_, _], _ => rfl,
      F__law_right := F21,
      g__law_right := PySem.W.mg_of X G a21,
      b__law_right := F21.binds (ps := ["pot"]) fun _ _ _ _ _ _ us hl => match us, hl with | [_], _ => rfl,
      F_law := F22,
      g_law := PySem.W.mg_of X G a22,
      b_law := F22.binds (ps := ["script"]) fun _ _ _ _ _ _ us hl => match us, hl with | [_], _ => rfl,
      n_len := PySem.W.mg_none_of X G n_len,
      n_int := PySem.W.mg_none_of X G n_int,
      n_bool := PySem.W.mg_none_of X G n_bool,
      n_str := PySem.W.mg_none_of X G n_str,
      n_tuple := PySem.W.mg_none_of X G n_tuple,
      n_list := PySem.W.mg_none_of X G n_list,
      n_abs := PySem.W.mg_none_of X G n_abs,
      n_max := PySem.W.mg_none_of X G n_max,
      n_min := PySem.W.mg_none_of X G n_min,
      n_sum := PySem.W.mg_none_of X G n_sum,
      n_all := PySem.W.mg_none_of X G n_all,
      n_isinstance := PySem.W.mg_none_of X G n_isinstance,
      n_range := PySem.W.mg_none_of X G n_range,
      n_repr := PySem.W.mg_none_of X G n_repr,
      n_ValueError := PySem.W.mg_none_of X G n_ValueError,
      c_SMALL := ⟨_, PySem.W.mg_of X G c_SMALL, r_SMALL⟩,
      c_FIGURES := ⟨_, PySem.W.mg_of X G c_FIGURES, r_FIGURES⟩,
      c_MOST_FIGURES := ⟨_, PySem.W.mg_of X G c_MOST_FIGURES, r_MOST_FIGURES⟩,
      c_MINUS := ⟨_, PySem.W.mg_of X G c_MINUS, r_MINUS⟩,
      c_DOT := ⟨_, PySem.W.mg_of X G c_DOT, r_DOT⟩,
      c_OPENING := ⟨_, PySem.W.mg_of X G c_OPENING, r_OPENING⟩,
      c_CLOSING := ⟨_, PySem.W.mg_of X G c_CLOSING, r_CLOSING⟩,
      c_BRACKETS := ⟨_, PySem.W.mg_of X G c_BRACKETS, r_BRACKETS⟩,
      c_NONE := ⟨_, PySem.W.mg_of X G c_NONE, r_NONE⟩,
      c_EMPTY := ⟨_, PySem.W.mg_of X G c_EMPTY, r_EMPTY⟩,
      c_BLANK := ⟨_, PySem.W.mg_of X G c_BLANK, r_BLANK⟩,
      c_MOST_DEEP := ⟨_, PySem.W.mg_of X G c_MOST_DEEP, r_MOST_DEEP⟩,
      c_BEYOND := c_BEYOND,
      base := base,
      lab := lab,
      bad := bad,
      g_LabError := PySem.W.mg_of X G g_LabError,
      g_BadPaper := PySem.W.mg_of X G g_BadPaper,
      x_bad := x_bad,
      i_bad := i_bad,
      code := code }
  exact ⟨(PySem.W.fnOf "law" "law" (defArgs s_law) (defBody s_law) (defScope s_law) .none kV22 dc22 pm22 an22 cd22 ct22), fun s v => .of_eq rfl, fun base _ _ => fun PT TB => ok_law T TB⟩
end My
open PySem PySem.W PyProof.Rows
set_option maxRecDepth 100000 in
set_option maxHeartbeats 0 in
theorem PySem.Challenge.cw_holdsfailsopen_k25_papers_as_text_holds : PySem.Challenge.rw_holdsfailsopen_k25_papers_as_text.Holds := by
  w_on; o_law; k_head; (case hw => w_witness2)
  k_fill
  refine' My.walk_tab1 (l := PySem.Challenge.rw_holdsfailsopen_k25_papers_as_text) (n := 63) (k := 21) (x := "script") (spl := My.spLaw) ?tc ?tp rfl (by decide) rfl ⟨rfl, by decide, by decide⟩ (fun w h Y => PySem.W.km_in_of Y) ?F (fun w H a ns hl hb hH hS => ⟨a, ns, rfl, hS, hl, hb, My.tabs_start hH, fun _ => rfl⟩)
  case F =>
    intro w mg fa h Y KX G hX hmg
    have lo_BEYOND : ∃ u, mg "BEYOND" = some u ∧ L2.RelV (.int (10 ^ 300)) u := by
      obtain ⟨v, e, r⟩ := hX.2.val _ (by first | exact List.mem_cons_self | (simp only [List.mem_cons, true_or, or_true]))
      cases r with | int i t => exact ⟨_, e, t, rfl⟩
    refine' My.mk_tab (My.all_mk KX G hmg ?a0 ?l0 ?c0 ?k0 ?a1 ?l1 ?c1 ?k1 ?a2 ?l2 ?c2 ?k2 ?a3 ?l3 ?c3 ?k3 ?a4 ?l4 ?c4 ?k4 ?a5 ?l5 ?c5 ?k5 ?a6 ?l6 ?c6 ?k6 ?a7 ?l7 ?c7 ?k7 ?a8 ?l8 ?c8 ?k8 ?a9 ?l9 ?c9 ?k9 ?a10 ?l10 ?c10 ?k10 ?a11 ?l11 ?c11 ?k11 ?a12 ?l12 ?c12 ?k12 ?a13 ?l13 ?c13 ?k13 ?a14 ?l14 ?c14 ?k14 ?a15 ?l15 ?c15 ?k15 ?a16 ?l16 ?c16 ?k16 ?a17 ?l17 ?c17 ?k17 ?a18 ?l18 ?c18 ?k18 ?a19 ?l19 ?c19 ?k19 ?a20 ?l20 ?c20 ?k20 ?a21 ?l21 ?c21 ?k21 ?a22 ?l22 ?c22 ?k22 ?n_len ?n_int ?n_bool ?n_str ?n_tuple ?n_list ?n_abs ?n_max ?n_min ?n_sum ?n_all ?n_isinstance ?n_range ?n_repr ?n_ValueError ?c_SMALL ?r_SMALL ?c_FIGURES ?r_FIGURES ?c_MOST_FIGURES ?r_MOST_FIGURES ?c_MINUS ?r_MINUS ?c_DOT ?r_DOT ?c_OPENING ?r_OPENING ?c_CLOSING ?r_CLOSING ?c_BRACKETS ?r_BRACKETS ?c_NONE ?r_NONE ?c_EMPTY ?r_EMPTY ?c_BLANK ?r_BLANK ?c_MOST_DEEP ?r_MOST_DEEP lo_BEYOND ?base ?lab ?bad ?g_LabError ?g_BadPaper ?x_bad ?i_bad ?code) ?tv ?tP ?TE ?TC ?TO
    (case a0 => k_is)
    (case l0 => k_is)
    (case c0 => k_is)
    (case k0 => k_is)
    (case a1 => k_is)
    (case l1 => k_is)
    (case c1 => k_is)
    (case k1 => k_is)
    (case a2 => k_is)
    (case l2 => k_is)
    (case c2 => k_is)
    (case k2 => k_is)
    (case a3 => k_is)
    (case l3 => k_is)
    (case c3 => k_is)
    (case k3 => k_is)
    (case a4 => k_is)
    (case l4 => k_is)
    (case c4 => k_is)
    (case k4 => k_is)
    (case a5 => k_is)
    (case l5 => k_is)
    (case c5 => k_is)
    (case k5 => k_is)
    (case a6 => k_is)
    (case l6 => k_is)
    (case c6 => k_is)
    (case k6 => k_is)
    (case a7 => k_is)
    (case l7 => k_is)
    (case c7 => k_is)
    (case k7 => k_is)
    (case a8 => k_is)
    (case l8 => k_is)
    (case c8 => k_is)
    (case k8 => k_is)
    (case a9 => k_is)
    (case l9 => k_is)
    (case c9 => k_is)
    (case k9 => k_is)
    (case a10 => k_is)
    (case l10 => k_is)
    (case c10 => k_is)
    (case k10 => k_is)
    (case a11 => k_is)
    (case l11 => k_is)
    (case c11 => k_is)
    (case k11 => k_is)
    (case a12 => k_is)
    (case l12 => k_is)
    (case c12 => k_is)
    (case k12 => k_is)
    (case a13 => k_is)
    (case l13 => k_is)
    (case c13 => k_is)
    (case k13 => k_is)
    (case a14 => k_is)
    (case l14 => k_is)
    (case c14 => k_is)
    (case k14 => k_is)
    (case a15 => k_is)
    (case l15 => k_is)
    (case c15 => k_is)
    (case k15 => k_is)
    (case a16 => k_is)
    (case l16 => k_is)
    (case c16 => k_is)
    (case k16 => k_is)
    (case a17 => k_is)
    (case l17 => k_is)
    (case c17 => k_is)
    (case k17 => k_is)
    (case a18 => k_is)
    (case l18 => k_is)
    (case c18 => k_is)
    (case k18 => k_is)
    (case a19 => k_is)
    (case l19 => k_is)
    (case c19 => k_is)
    (case k19 => k_is)
    (case a20 => k_is)
    (case l20 => k_is)
    (case c20 => k_is)
    (case k20 => k_is)
    (case a21 => k_is)
    (case l21 => k_is)
    (case c21 => k_is)
    (case k21 => k_is)
    (case a22 => k_is)
    (case l22 => k_is)
    (case c22 => k_is)
    (case k22 => k_is)
    (case n_len => k_is)
    (case n_int => k_is)
    (case n_bool => k_is)
    (case n_str => k_is)
    (case n_tuple => k_is)
    (case n_list => k_is)
    (case n_abs => k_is)
    (case n_max => k_is)
    (case n_min => k_is)
    (case n_sum => k_is)
    (case n_all => k_is)
    (case n_isinstance => k_is)
    (case n_range => k_is)
    (case n_repr => k_is)
    (case n_ValueError => k_is)
    (case c_SMALL => k_is)
    (case c_FIGURES => k_is)
    (case c_MOST_FIGURES => k_is)
    (case c_MINUS => k_is)
    (case c_DOT => k_is)
    (case c_OPENING => k_is)
    (case c_CLOSING => k_is)
    (case c_BRACKETS => k_is)
    (case c_NONE => k_is)
    (case c_EMPTY => k_is)
    (case c_BLANK => k_is)
    (case c_MOST_DEEP => k_is)
    (case r_SMALL => exact ⟨_, rfl⟩)
    (case r_FIGURES => exact ⟨_, rfl⟩)
    (case r_MOST_FIGURES => exact ⟨_, rfl⟩)
    (case r_MINUS => exact ⟨_, rfl⟩)
    (case r_DOT => exact ⟨_, rfl⟩)
    (case r_OPENING => exact ⟨_, rfl⟩)
    (case r_CLOSING => exact ⟨_, rfl⟩)
    (case r_BRACKETS => exact ⟨_, rfl⟩)
    (case r_NONE => exact ⟨_, rfl⟩)
    (case r_EMPTY => exact ⟨_, rfl⟩)
    (case r_BLANK => exact ⟨_, rfl⟩)
    (case r_MOST_DEEP => exact ⟨_, rfl⟩)
    (case g_LabError => k_is)
    (case g_BadPaper => k_is)
    (case code => rfl)
    case lab =>
      refine' ⟨⟨_, _, _, _, _, _, _, _, _, _, _, _, _, _, _, ?q1, ?q2, ?q3⟩, ?q4, ?q5, ?q6, ?q7, ?q8, ?q9, ?q10, ?q11, ?q12, ?q13, ?q14, ?q15⟩
      (case q1 => refine' Eq.trans ?e1 ?e2; (case e1 => k_is); (case e2 => rfl))
      (case q2 => rfl)
      (case q3 => rfl)
      (case q4 => k_is)
      (case q5 => k_is)
      (case q6 => k_is)
      (case q7 => k_is)
      (case q8 => k_is)
      (case q9 => k_is)
      (case q10 => k_is)
      (case q11 => k_is)
      (case q12 => k_is)
      (case q13 => k_is)
      (case q14 => k_is)
      (case q15 => kernel_rfl)
    case base =>
      refine' ⟨?q1, ?q2, ?q3, ⟨_, _, _, _, _, _, _, _, _, _, _, _, _, _, _, _, _, _, _, _, _, ?q4, ?q5, ⟨_, _, _, _, _, _, ?q6, ?q7, ?q8⟩, ⟨_, _, _, ?q9⟩, ?q10⟩, ?q11⟩
      (case q1 => k_is)
      (case q2 => k_is)
      (case q3 => rfl)
      (case q4 => refine' Eq.trans ?e1 ?e2; (case e1 => k_is); (case e2 => rfl))
      (case q5 => k_is)
      (case q6 => refine' Eq.trans ?e1 ?e2; (case e1 => k_is); (case e2 => rfl))
      (case q7 => rfl)
      (case q8 => rfl)
      (case q9 => refine' Eq.trans ?e1 ?e2; (case e1 => k_is); (case e2 => rfl))
      (case q10 => rfl)
      (case q11 => kernel_rfl)
    case bad =>
      refine' ⟨⟨_, _, _, _, _, _, _, _, _, _, _, _, _, _, _, ?q1, ?q2, ?q3⟩, ?q4, ?q5, ?q6, ?q7, ?q8, ?q9, ?q10, ?q11, ?q12, ?q13, ?q14, ?q15⟩
      (case q1 => refine' Eq.trans ?e1 ?e2; (case e1 => k_is); (case e2 => rfl))
      (case q2 => rfl)
      (case q3 => rfl)
      (case q4 => k_is)
      (case q5 => k_is)
      (case q6 => k_is)
      (case q7 => k_is)
      (case q8 => k_is)
      (case q9 => k_is)
      (case q10 => k_is)
      (case q11 => k_is)
      (case q12 => k_is)
      (case q13 => k_is)
      (case q14 => k_is)
      (case q15 => kernel_rfl)
    (case x_bad => kernel_rfl)
    (case i_bad => kernel_rfl)
    (case tv => k_is)
    (case tP => rfl)
    (case TE => exact PySem.W.km_tabs_of Y _ (by decide))
    (case TC => exact PySem.W.codeHd_of_K KX (by kernel_rfl))
    (case TO => kernel_rfl)
