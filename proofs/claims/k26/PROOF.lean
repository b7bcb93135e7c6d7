import PyProof.Rows.All
import Wide.All
import OpenK.AllK
import Wide.FinOn
import HandS.ForMost
import HandS.ForExc
import HandS.Wide
import HandS.IsInst
import HandS.TupAny
import HandS.Conv
import HandS.EndBits
import HandS.Style
import HandS.More
import PyProof.SumAny
import PyProof.ListOps
import PyProof.NeKinds
import HandS.RaiseMore
import HandS.TupMul
import HandS.TupLe
import HandS.Star
import HandS.Zip0
import HandS.Iter
import PyProof.Draws
import KE.DataMinMax
import KE.SortData
import KE.KRevSl
import PySem.Challenge.RW_holdsfailsopen_k26_whole_zones_by_values
set_option Elab.async false
set_option linter.all false
set_option maxRecDepth 100000
set_option maxHeartbeats 4000000
/-! Foundation: defs that know that no repr is under way around them; calls of such by position and by keyword. -/
namespace My
open PySem PySem.Spec PyProof.Rows L2

/-- a def's promise, kept wherever no repr is under way -/
structure FnG (P : Program) (w : World) (K : PySem.W.Frag) (mg : Str → Option Value) (base : Heap) (C : CXT) (k : Nat) (f : Addr) (fd : FuncData) (ps : List Str) (sp : Sp) : Prop where
  len : ∀ vs H Q E, sp vs H Q E → vs.length = ps.length
  run : ∀ (A : Around) (outer : List Env) (s : Shared) (H : Hp) (args : Args) (us : List Value) (vs : List V) (Q : VK) (E : XK),
    Room k A → A.guards = some [] → Env0 P w K mg base A outer s H → BindsTo s fd args (ps.zip us) → Vals vs us → sp vs H Q E →
    codeAny (model P w) A (.call (.ref f) args) (CR C outer P w H s Q E) s

section
variable {P : Program} {w : World} {K : PySem.W.Frag} {mg : Str → Option Value} {base : Heap} {C : CXT} {k : Nat} {f : Addr} {fd : FuncData} {ps : List Str} {sp : Sp}
theorem FnG.of (F : FnOk P w K mg base C k f fd ps sp) : FnG P w K mg base C k f fd ps sp :=
  ⟨F.len, fun A outer s H args us vs Q E hr _ => F.run A outer s H args us vs Q E hr⟩
theorem FnG.mono {j : Nat} (F : FnG P w K mg base C j f fd ps sp) (h : j ≤ k) : FnG P w K mg base C k f fd ps sp :=
  ⟨F.len, fun A outer s H args us vs Q E hr => F.run A outer s H args us vs Q E (hr.mono h)⟩

/-- a def of the text by its body -/
theorem def_ok {x qual : Str} {st : Stmt} {N : List Str} (F : Fun K x qual st f fd) (S : FnScope N ps (defScope st))
    (len : ∀ vs H Q E, sp vs H Q E → vs.length = ps.length)
    (body : ∀ (cdv : Value) (A : Around) (outer : List Env) (s : Shared) (H : Hp) (vs : List V) (Q : VK) (E : XK),
      Room k (A.deeper (envOfC qual (defScope st) s.heap.objs.size f cdv)) → (A.deeper (envOfC qual (defScope st) s.heap.objs.size f cdv)).guards = some [] → sp vs H Q E →
      ∃ t, PSs (cxOf C P w K mg base N qual (defScope st) f cdv A outer s H E) (defBody st) t ∧ t { nx := fun _ H' => Q .non H', rt := Q } (start N vs) H) :
    FnG P w K mg base C (k + 1) f fd ps sp := by
  obtain ⟨oc, od, kV, doc, pm, an, cdv, ct, osl, rfl, lk, hcd⟩ := F.ex
  constructor
  · exact len
  intro A outer s H args us vs Q E hr hg e0 hb r hsp
  have hl := len _ _ _ _ hsp
  have up : ∀ b o, base.get? b = some o → s.heap.get? b = some o := fun b o e => (e0.bs b o e).1
  have KX : K.In s.heap := e0.mod.kin.keeps up
  have kinds : ∀ y ∈ ps.zip us, (defScope st).names.lookup y.1 = some .local ∨
      ((defScope st).names.lookup y.1 = some .cell ∧ ((cellsFrom (s.heap.objs.size + 1) (defScope st).names []).lookup y.1).isSome = true) := by
    intro y hy
    cases S.par y.1 (List.of_mem_zip hy).1 with
    | inl q => exact Or.inl q
    | inr q => exact Or.inr ⟨q, PySem.W.cellsFrom_some _ _ _ (Or.inl q)⟩
  refine codeAny_call_function hr.depth (KX _ _ lk) rfl S.co S.gen rfl (PySem.W.codeRec_of KX hcd) (hb _ _ _ _ ?_)
  refine wpAny_newFunctionEnv_cells S.kind kinds fun env he s1 x => ?_
  subst he
  refine ⟨(e0.mod.nolimit.keeps up).keeps x.toInCall.keep, codeAny_func ?_⟩
  obtain ⟨t, ht, hq⟩ := body cdv A outer s H vs Q E (hr.deeper _) hg hsp
  have I := inv_start (CX := C) (E := E) (base := base) (mg := mg) (K := K) S hr.hd e0 hl r x
  refine wpAny_mono (ht.run [] s1 (start N vs) H _ I hq) ?_ (fun e s' z => z)
  intro fl s' z
  cases fl with
  | next =>
    obtain ⟨σ', H', J, q⟩ := z
    exact ⟨V.non, H', J.os, J.bare, J.base, J.hok, rfl, q⟩
  | ret u =>
    obtain ⟨v, σ', H', J, rv, q⟩ := z
    exact ⟨v, H', J.os, J.bare, J.base, J.hok, rv, q⟩
  | brk => obtain ⟨_, _, _, q⟩ := z; exact q.elim
  | cont => obtain ⟨_, _, _, q⟩ := z; exact q.elim
end

section
variable {P : Program} {w : World} {K : PySem.W.Frag} {mg : Str → Option Value} {base : Heap} {k : Nat} {f : Addr} {fd : FuncData} {ps : List Str} {sp : Sp}
/-- a def that lets nothing out -/
theorem def_ok0 {x qual : Str} {st : Stmt} {N : List Str} (F : Fun K x qual st f fd) (S : FnScope N ps (defScope st))
    (len : ∀ vs H Q E, sp vs H Q E → vs.length = ps.length)
    (body : ∀ (cdv : Value) (A : Around) (outer : List Env) (s : Shared) (H : Hp) (vs : List V) (Q : VK) (E : XK),
      Room k (A.deeper (envOfC qual (defScope st) s.heap.objs.size f cdv)) → (A.deeper (envOfC qual (defScope st) s.heap.objs.size f cdv)).guards = some [] → sp vs H Q E →
      ∃ t, PSs (cxOf CX0 P w K mg base N qual (defScope st) f cdv A outer s H E).nox (defBody st) t ∧ t { nx := fun _ H' => Q .non H', rt := Q } (start N vs) H) :
    FnG P w K mg base CX0 (k + 1) f fd ps sp := by
  refine def_ok F S len fun cdv A outer s H vs Q E hr hg hsp => ?_
  obtain ⟨t, h, q⟩ := body cdv A outer s H vs Q E hr hg hsp
  exact ⟨t, h.nox, q⟩
end

section
variable {X : Cx} {C : CXT} {k : Nat} {f : Addr} {fd : FuncData} {ps ks : List Str} {sp : Sp} {E : XK} {x : Str} {p pos : Pos} {e : Expr} {es : List Expr} {kws : List Keyword} {t tk : TA}
theorem run_g {pins : List (Addr × Obj)} {σ : L2.St} {H : Hp} {s : Shared} {Q : VK} {args : Args} {us : List Value} {vs : List V} (F : FnG X.prog X.w X.K X.mg X.base C k f fd ps sp) (hr : Room k X.A) (hG : X.A.guards = some []) (hx : Passes C X E)
    (I : Inv X pins σ H s) (hb : BindsTo s fd args (ps.zip us)) (r : Vals vs us) (h : sp vs H Q E) :
    codeAny (model X.prog X.w) X.A (.call (.ref f) args) (fun r s' => match r with | .ok (.ret u) => EP X pins σ Q u s' | .ok _ => False | .error e => X.xe e s') s := by
  refine codeAny_mono (F.run X.A X.stack s H args us vs Q E hr hG I.env0 hb r h) ?_
  intro r s' hq
  cases r with
  | error e => exact hx pins σ H s e s' I hq
  | ok fl =>
    cases fl with
    | ret u => exact I.after hq
    | next => exact hq.elim
    | brk => exact hq.elim
    | cont => exact hq.elim
theorem mono_g {pins : List (Addr × Obj)} {σ : L2.St} {s : Shared} {Q : VK} {args : Args} (h : codeAny (model X.prog X.w) X.A (.call (.ref f) args) (fun r s' => match r with | .ok (.ret u) => EP X pins σ Q u s' | .ok _ => False | .error e => X.xe e s') s) :
    wpAny (model X.prog X.w) X.A (call (.ref f) args.pos args.kw) (EP X pins σ Q) X.xe s := by
  refine wpAny_call (codeAny_mono h ?_)
  intro r s' hq
  cases r with
  | error e => exact hq
  | ok fl =>
    cases fl with
    | ret u => exact hq
    | next => exact hq.elim
    | brk => exact hq.elim
    | cont => exact hq.elim
/-- f(a, ..) -/
theorem pe_cg (F : FnG X.prog X.w X.K X.mg X.base C k f fd ps sp) (hr : Room k X.A) (hG : X.A.guards = some []) (hg : Gl X x) (hm : X.mg x = some (.ref f)) (hk : PySem.W.keepIn X.K (.ref f) = true) (hb : Binds X.K fd ps []) (hx : Passes C X E)
    (ha : PA X (e :: es) t) (hdb : (x == ("__debug__" : Str)) = false := by decide) (he : starEach (e :: es) X.env = (false, eval e X.env) :: starEach es X.env := by rfl) (hpl : (backTo pos (starEach es X.env)).any (·.1) = false := by rfl) :
    PE X (.Call (.Name x p) (e :: es) [] pos) (tCall sp [] E t) := by
  refine ⟨fun pins s σ H Q I h => ?_⟩
  refine wpAny_Call_Name_kw (ld_glob I hg hm ?_ hdb)
  refine PySem.W.callWith_K (h₀ := X.base) I.ok.mod.kin hk (thn (ha.run pos pins s σ H _ I h) ?_) he hpl
  rintro us s1 ⟨vs, H1, I1, r, q⟩
  refine ⟨I1.kIn, ?_⟩
  have q' : sp vs H1 Q E := by rw [← List.append_nil vs]; exact q
  have hl : (us ++ []).length = ps.length := by rw [List.append_nil, ← r.length]; exact F.len _ _ _ _ q'
  have hb' := hb s1 us I1.kIn hl
  rw [List.append_nil] at hb'
  exact mono_g (args := ⟨us, []⟩) (run_g F hr hG hx I1 hb' r q')
/-- f(k = v, ..), keywords alone -/
theorem pe_cgk {g : List Value → List Value → List Value} {gV : List V → List V → List V} (F : FnG X.prog X.w X.K X.mg X.base C k f fd ps sp) (hr : Room k X.A) (hG : X.A.guards = some []) (hg : Gl X x) (hm : X.mg x = some (.ref f)) (hk : PySem.W.keepIn X.K (.ref f) = true) (hb : KBinds X.K fd ps ks g gV) (hx : Passes C X E)
    (hkw : PK X kws tk) (hall : (backToKw pos (keywordEach kws X.env)).all (·.1.isSome) = true := by rfl) (hks : (backToKw pos (keywordEach kws X.env)).filterMap (·.1) = ks := by rfl)
    (hdb : (x == ("__debug__" : Str)) = false := by decide)
    (hpl : ((backTo pos (starEach [] X.env)).any (·.1) || (backToKw pos (keywordEach kws X.env)).any (·.1.isNone)) = false := by rfl) :
    PE X (.Call (.Name x p) [] kws pos) (tCallK sp gV E tNil tk) := by
  refine ⟨fun pins s σ H Q I h => ?_⟩
  refine wpAny_Call_Name_kw (ld_glob I hg hm ?_ hdb)
  refine PySem.W.callWith_KW0 (h₀ := X.base) I.ok.mod.kin hk hall (thn (hkw.run pos pins s σ H _ I h) ?_) hpl
  rintro ws s2 ⟨zs, H2, I2, rz, q2⟩
  refine ⟨I2.kIn, ?_⟩
  rw [hks]
  have r2 := hb.rel .nil rz
  have hl : (g [] ws).length = ps.length := by rw [← r2.length]; exact F.len _ _ _ _ q2
  exact mono_g (args := ⟨[], ks.zip ws⟩) (run_g F hr hG hx I2 (hb.to s2 [] ws I2.kIn hl) r2 q2)

/-- a def of one parameter, called by its name -/
theorem kbind1 {K : PySem.W.Frag} {x qual : Str} {st : Stmt} {f : Addr} {fd : FuncData} {p : Str} (F : Fun K x qual st f fd)
    (h1 : ∀ (kV doc pm : Value) (an : Option Addr) (cdv ct v : Value), bindArgs (PySem.W.fnOf x qual (defArgs st) (defBody st) (defScope st) .none kV doc pm an cdv ct) ⟨[v], []⟩ = pure [(p, v)])
    (h2 : ∀ (kV doc pm : Value) (an : Option Addr) (cdv ct v : Value), bindArgs (PySem.W.fnOf x qual (defArgs st) (defBody st) (defScope st) .none kV doc pm an cdv ct) ⟨[], [(p, v)]⟩ = pure [(p, v)]) :
    KBinds K fd [p] [p] (fun us ws => us ++ ws) (fun us zs => us ++ zs) := by
  obtain ⟨oc, od, kV, doc, pm, an, cdv, ct, osl, rfl, lk, hcd⟩ := F.ex
  refine ⟨fun s us ws _ hl => ?_, fun r1 r2 => r1.append r2⟩
  have hl : (us ++ ws).length = 1 := hl
  match us, ws, hl with
  | [], [v], _ => exact .of_eq (h2 kV doc pm an cdv ct v)
  | [v], [], _ => exact .of_eq (h1 kV doc pm an cdv ct v)
  | [], [], hl => exact absurd hl (by decide)
  | [], x :: y :: r, hl => simp at hl
  | [x], y :: r, hl => simp at hl
  | x :: y :: r, ws, hl => simp at hl

/-! ### a word between what is reckoned and what follows: each way is joined -/
def tCutE (t : TE) : TE := fun σ H Q => ∃ φ : V → Hp → Prop, t σ H φ ∧ ∀ v H', φ v H' → Q v H'
def tCutT (t : TT) : TT := fun σ H Q => ∃ φ : Bool → Hp → Prop, t σ H φ ∧ ∀ b H', φ b H' → Q b H'
def tSeqC (t u : TS) : TS := fun D σ H => ∃ φ : L2.St → Hp → Prop, t { D with nx := φ } σ H ∧ ∀ σ' H', φ σ' H' → u D σ' H'
theorem pe_cut {te : TE} (h : PE X e te) : PE X e (tCutE te) := by
  refine ⟨fun pins s σ H Q I q => ?_⟩
  obtain ⟨φ, a, b⟩ := q
  refine thn (h.run pins s σ H φ I a) ?_
  rintro u s1 ⟨v, H1, I1, r, z⟩
  exact ⟨v, H1, I1, r, b v H1 z⟩
theorem pt_cut {tt : TT} (h : PT X e tt) : PT X e (tCutT tt) := by
  refine ⟨fun pins s σ H Q I q => ?_⟩
  obtain ⟨φ, a, b⟩ := q
  refine thn (h.run pins s σ H φ I a) ?_
  rintro u s1 ⟨H1, I1, z⟩
  exact ⟨H1, I1, b u H1 z⟩
theorem pss_join {st : Stmt} {rest : List Stmt} {ts us : TS} (h1 : PS X st ts) (h2 : PSs X rest us) : PSs X (st :: rest) (tSeqC ts us) := by
  refine ⟨fun pins s σ H D I h => ?_⟩
  obtain ⟨φ, a, b⟩ := h
  refine wpAny_execs_cons (thn (h1.run pins s σ H { D with nx := φ } I a) ?_)
  intro f s1 q
  cases f with
  | next =>
    obtain ⟨σ', H', I', z⟩ := q
    exact h2.run pins s1 σ' H' D I' (b σ' H' z)
  | ret v => exact q
  | brk => exact q
  | cont => exact q
end
end My

namespace My
open PySem PySem.Spec PyProof.Rows L2
/-- repr(x) of data -/
def rRep (K : PySem.W.Frag) : List V → Hp → VK → Prop := fun xs H Q => ∃ x d, xs = [x] ∧ Dp K H x d ∧ d.showable = true ∧ d.hasDict = false ∧ d.depth ≤ 60 ∧ d.shown.length ≤ sizeLine ∧
  (∀ i, d = .int i → i.natAbs.log2 < 1920) ∧ Q (.str d.shown) H
section
variable {X : Cx}
theorem call_rep (hG : X.A.guards = some []) (hu : X.A.units + 64 < cLine) : CallR X (.builtin "repr") (rRep X.K) := by
  intro pins s σ H xs us Q I r h
  obtain ⟨x, d, rfl, hd, hs, hn, hz, hl, hi, q⟩ := h
  obtain ⟨u, rfl, rx⟩ : ∃ u, us = [u] ∧ RelV x u := by
    cases r with
    | cons a b => cases b; exact ⟨_, rfl, a⟩
  have byRef : ∀ a, u = Value.ref a → wpAny (model X.prog X.w) X.A (call (.builtin "repr") [u]) (EP X pins σ Q) X.xe s := by
    rintro a rfl
    obtain ⟨as, rd⟩ := Dp.reads I d x _ hd rx
    refine repr_of_reads' rd hs (fun z => by rw [hn] at z; cases z) hG (by omega) (fun _ _ z => z) ?_ hl
    intro h' u tk hk
    exact ⟨.str _, H, I.kept hk, ⟨_, rfl⟩, q⟩
  cases hd with
  | non => cases rx; exact PySem.P.repr_of_none ⟨.str _, H, I.tok _, ⟨_, rfl⟩, q⟩
  | bl b =>
    cases rx
    refine PySem.P.repr_of_bool ⟨.str _, H, I.tok _, ⟨_, rfl⟩, ?_⟩
    cases b <;> exact q
  | int i =>
    obtain ⟨t, rfl⟩ := rx
    exact PySem.P.repr_of_int (hi i rfl) ⟨.str _, H, I.tok _, ⟨_, rfl⟩, q⟩
  | str y =>
    obtain ⟨t, rfl⟩ := rx
    exact PySem.P.repr_of_str ⟨.str _, H, I.tok _, ⟨_, rfl⟩, q⟩ hl
  | lst _ _ => cases rx; exact byRef _ rfl
  | tup _ _ => cases rx; exact byRef _ rfl
theorem call_repK {K : PySem.W.Frag} (hG : X.A.guards = some []) (hu : X.A.units + 64 < cLine) (hK : X.K = K := by rfl) : CallR X (.builtin "repr") (rRep K) := by
  rw [← hK]
  exact call_rep hG hu
end
end My

namespace My
open PySem PySem.Spec PyProof.Rows L2
/-- a constant of the module -/
theorem pe_gl {X : Cx} {x : Str} {pos : Pos} {v : V} (h : ∃ u, X.mg x = some u ∧ RelV v u) (hg : Gl X x := by rfl) (hd : (x == ("__debug__" : Str)) = false := by decide) : PE X (.Name x pos) (tC v) := by
  obtain ⟨u, hm, r⟩ := h
  exact pe_glob hg hm r hd
/-- a ** b of any sizes within the model's line -/
def CPowB (i j : Int) : Prop := 0 ≤ j ∧ (Builtin.Int.intBits i : Int) * j ≤ 2 ^ 27
theorem op_powB {X : Cx} : OpR X (binaryOp .Pow) (rI CPowB fun i j => .int (i ^ j.toNat)) := opI fun _ _ _ _ _ _ _ hc q => pow_int hc.1 hc.2 q
theorem bits_le {i : Int} {n : Nat} (h : i.natAbs < 2 ^ n) (h0 : 0 < n) : Builtin.Int.intBits i ≤ n := by
  unfold Builtin.Int.intBits
  split
  · omega
  · have := PySem.Flt.log2_lt_of h0 h
    omega
theorem powB {i j : Int} (n : Nat) (h : i.natAbs < 2 ^ n) (h0 : 0 < n) (hj : 0 ≤ j) (hb : (n : Int) * j ≤ 2 ^ 27) : CPowB i j := by
  refine ⟨hj, Int.le_trans (Int.mul_le_mul_of_nonneg_right ?_ hj) hb⟩
  have := bits_le h h0
  omega

/-! ### the draws -/
def But (p : Addr) (H H' : Hp) : Prop := ∀ b o, b ≠ p → H b = some o → H' b = some o
theorem But.refl (p : Addr) (H : Hp) : But p H H := fun _ _ _ h => h
theorem But.trans {p : Addr} {H H1 H2 : Hp} (a : But p H H1) (b : But p H1 H2) : But p H H2 := fun c o n h => b c o n (a c o n h)
theorem But.of {p : Addr} {H H' : Hp} (a : Same H H') : But p H H' := fun c o _ h => a c o h
theorem same_upd {H : Hp} {p : Addr} {o : HO} (h : H p = none) : Same H (upd H p o) := fun b x e => by
  rw [upd_ne (ne_of_none e h)]
  exact e
theorem But.upd {p : Addr} {H : Hp} {o : HO} : But p H (upd H p o) := fun b x n e => by
  rw [upd_ne n]
  exact e
theorem But.rd {p a : Addr} {H H' : Hp} {u : HO} (b : But p H H') (n : a ≠ p) (h : Rd H a u) : Rd H' a u := by
  rcases h with h | ⟨o, h⟩
  · exact .inl (b _ _ n h)
  · exact .inr ⟨o, b _ _ n h⟩
theorem But.seqL {K : PySem.W.Frag} {p a : Addr} {H H' : Hp} {xs : List V} (b : But p H H') (n : a ≠ p) (h : SqL K H a xs) : SqL K H' a xs := by
  rcases h with h | h
  · exact .inl (b.rd n h)
  · exact .inr h
theorem But.seqT {K : PySem.W.Frag} {p a : Addr} {H H' : Hp} {xs : List V} (b : But p H H') (n : a ≠ p) (h : SqT K H a xs) : SqT K H' a xs := by
  rcases h with h | h
  · exact .inl (b.rd n h)
  · exact .inr h
/-- the pot at p: what is left of the cell, the mixed number, how many were mixed: n at most -/
def PotAt (H : Hp) (p : Addr) (n : Nat) : Prop := ∃ own small cnt : Int, H p = some (.lst [.int own, .int small, .int cnt]) ∧
  0 ≤ own ∧ own < 2 ^ 1000 ∧ 0 ≤ small ∧ small < 2 ^ 61 ∧ 0 ≤ cnt ∧ cnt ≤ n
theorem PotAt.mono {H : Hp} {p : Addr} {n m : Nat} (h : PotAt H p n) (e : n ≤ m) : PotAt H p m := by
  obtain ⟨o, s, c, h1, h2, h3, h4, h5, h6, h7⟩ := h
  exact ⟨o, s, c, h1, h2, h3, h4, h5, h6, by omega⟩
theorem PotAt.same {H H' : Hp} {p : Addr} {n : Nat} (h : PotAt H p n) (e : Same H H') : PotAt H' p n := by
  obtain ⟨o, s, c, h1, h2⟩ := h
  exact ⟨o, s, c, e _ _ h1, h2⟩
/-- _law_take(pot, upto) -/
def spTake : Sp := fun vs H Q _ => ∃ (p : Addr) (upto : Int) (n : Nat), vs = [.ref p, .int upto] ∧ PotAt H p n ∧ n < 2 ^ 60 ∧ 0 < upto ∧ upto < 2 ^ 64 ∧
  ∀ i H', 0 ≤ i → i < upto → But p H H' → PotAt H' p (n + 1) → Q (.int i) H'
/-- _law_of(pot, some) -/
def spOf (K : PySem.W.Frag) : Sp := fun vs H Q _ => ∃ (p a : Addr) (xs : List V) (n : Nat), vs = [.ref p, .ref a] ∧ PotAt H p n ∧ n < 2 ^ 60 ∧ a ≠ p ∧ SqL K H a xs ∧ xs ≠ [] ∧ xs.length < 2 ^ 24 ∧
  ∀ x H', x ∈ xs → But p H H' → PotAt H' p (n + 1) → Q x H'
/-- _law_pot(script, place) -/
def spPot (K : PySem.W.Frag) : Sp := fun vs H Q _ => ∃ (a : Addr) (ns : List Int) (place : Int), vs = [.ref a, .int place] ∧ SqL K H a (ns.map V.int) ∧ ns.length ≤ 63 ∧
  (∀ z ∈ ns, Builtin.Int.intBits z ≤ 1048576) ∧ 0 ≤ place ∧ place ≤ 100 ∧ ∀ p H', Same H H' → H p = none → PotAt H' p 0 → Q (.ref p) H'
/-- _law_cells(script, most) -/
def spCells (K : PySem.W.Frag) : Sp := fun vs H Q _ => ∃ (a : Addr) (ns : List Int) (most : Int), vs = [.ref a, .int most] ∧ SqL K H a (ns.map V.int) ∧ ns.length ≤ 63 ∧ 0 ≤ most ∧ most ≤ 100 ∧
  ∀ (p : Addr) (H' : Hp) (m : Int), Same H H' → H p = none → 1 ≤ m → m ≤ 100 → H' p = some (.lst (rgV 0 m)) → Q (.ref p) H'
end My

/-! sum(lists, []): the lists, one behind the other, in a new list. -/
namespace PySem
namespace SumL
abbrev lstO (xs : Array Value) (c : Nat) : Obj := { cls := .type "list", dict := none, data := .seq xs c, slots := #[] }
def pre (cont : Nat → Array Value) : Nat → Array Value
  | 0 => #[]
  | i + 1 => pre cont i ++ cont i
section
variable {prog : Program} {w : World} {A : Around} {R : Result → Shared → Prop} {I : Addr} {fp wr : List Addr} {G : Array GenState → Array GenState → Prop} {n : Nat} {P : Nat → Value → Prop} {St : Nat → Shared → Prop}
theorem loop_lists (W : WalksS prog w A.in1 I fp wr G n P St) (cont : Nat → Array Value) (S : Addr) (hSf : S ∉ fp) (hlo : ∀ b ∈ fp, b < S) (hz : ∀ i, i ≤ n → (pre cont i).size ≤ sizeLine) :
    ∀ (k i : Nat) (s : Shared) (T cT c : Nat), n - i = k → i ≤ n → St i s → s.heap.get? S = some (lstO #[.ref T] c) → s.heap.get? T = some (lstO (pre cont i) cT) → T ∉ S :: wr →
    (∀ j v, P j v → ∃ p m, v = .ref p ∧ p ∉ S :: wr ∧ s.heap.get? p = some (lstO (cont j) m)) →
    (∀ s' T' c', Moved (S :: wr) G s s' → s'.heap.get? T' = some (lstO (pre cont n) c') → (T' = T ∧ i = n ∨ S < T') → R (.ok (.ret (.ref T'))) s') →
    codeAny (model prog w) A (.builtin "sum.loop" ⟨[.ref I, .ref S, rawInt 2, rawInt 0], []⟩) R s := by
  have hSw : S ∉ wr := fun h => hSf (W.sub _ h)
  have up : ∀ b ∈ wr, b ∈ S :: wr := fun b hb => List.mem_cons_of_mem _ hb
  intro k
  induction k with
  | zero =>
    intro i s T cT c hk hi hst hS hT hTn hP hR
    obtain rfl : i = n := by omega
    refine codeAny_builtin F.entry_sum_loop ?_
    rw [Around.under_plainId F.plain_sum_loop _]
    show wpAny _ A.in1 (seqItems? (.ref S) >>= _) _ _ s
    refine wpAny_bind (wpAny_seqItems hS rfl ?_)
    show wpAny _ A.in1 (tryCatch (pyNext (.ref I)) _ >>= _) _ _ s
    refine wpAny_bind (wpAny_tryCatch (W.done s _ _ hst fun s' hm => wpAny_pure ?_))
    exact hR s' T cT ⟨fun b o hb e => hm.heap b o (fun z => hb (up b z)) e, hm.gens, hm.drawn, hm.os, hm.toks⟩ (hm.heap T _ (fun z => hTn (up T z)) hT) (.inl ⟨rfl, rfl⟩)
  | succ k ih =>
    intro i s T cT c hk hi hst hS hT hTn hP hR
    have hlt : i < n := by omega
    refine codeAny_builtin F.entry_sum_loop ?_
    rw [Around.under_plainId F.plain_sum_loop _]
    show wpAny _ A.in1 (seqItems? (.ref S) >>= _) _ _ s
    refine wpAny_bind (wpAny_seqItems hS rfl ?_)
    show wpAny _ A.in1 (tryCatch (pyNext (.ref I)) _ >>= _) _ _ s
    refine wpAny_bind (wpAny_tryCatch (W.item i s _ _ hlt hst fun v s1 hv hst1 hm => ?_))
    obtain ⟨p, m, rfl, hp, ep⟩ := hP i v hv
    have k1 : ∀ b o, b ∉ S :: wr → s.heap.get? b = some o → s1.heap.get? b = some o := fun b o hb e => hm.heap b o (fun z => hb (up b z)) e
    have hS1 := hm.heap S _ hSw hS
    show wpAny _ A.in1 ((holding [Value.ref p] (binaryOp .Add (.ref T) (.ref p))).attempt >>= _) _ _ _
    refine wpAny_bind (wpAny_attempt (wpAny_holding (PySem.P.add_list (k1 T _ hTn hT) (k1 p _ hp ep) ?_ (by have := hz (i + 1) (by omega); simpa [pre] using this))))
    obtain ⟨h1, g1, d1, t1, o1⟩ := s1
    have pk : ∀ b o, h1.get? b = some o → (h1.push { cls := .type "list", data := .seq (pre cont i ++ cont i) }).get? b = some o := fun b o e => Heap.get?_push_of_some _ e
    have eT : (h1.push { cls := .type "list", data := .seq (pre cont i ++ cont i) }).get? h1.objs.size = some (lstO (pre cont (i + 1)) 0) := Heap.get?_push_size _ rfl
    have hS2 := pk _ _ hS1
    show wpAny _ A.in1 (updateSeq S (fun _ => #[.ref h1.objs.size]) >>= _) _ _ _
    refine wpAny_bind (wpAny_updateSeq hS2 rfl ?_)
    have hS3 := Heap.get?_update_self (Obj.mapSeq fun _ => #[Value.ref h1.objs.size]) hS2 rfl
    refine wpAny_bind (wpAny_letGo ?_)
    have neS : S ≠ h1.objs.size := Nat.ne_of_lt (Heap.lt_size hS1)
    have ltS : S < h1.objs.size := Heap.lt_size hS1
    have e3 : ∀ b, b ≠ S → ((h1.push { cls := .type "list", data := .seq (pre cont i ++ cont i) }).update S (Obj.mapSeq fun _ => #[Value.ref h1.objs.size])).get? b = (h1.push { cls := .type "list", data := .seq (pre cont i ++ cont i) }).get? b := fun b hb => Heap.get?_update_other _ _ (Ne.symm hb)
    refine wpAny_bind (wpAny_updateSeq hS3 rfl (wpAny_pure ⟨plainId_quiet F.plain_sum_loop _, ?_⟩))
    have hS4 := Heap.get?_update_self (Obj.mapSeq fun _ => #[Value.ref h1.objs.size]) hS3 rfl
    have e4 : ∀ b, b ≠ S → (((h1.push { cls := .type "list", data := .seq (pre cont i ++ cont i) }).update S (Obj.mapSeq fun _ => #[Value.ref h1.objs.size])).update S (Obj.mapSeq fun _ => #[Value.ref h1.objs.size])).get? b = (h1.push { cls := .type "list", data := .seq (pre cont i ++ cont i) }).get? b := fun b hb => (Heap.get?_update_other _ _ (Ne.symm hb)).trans (e3 b hb)
    have k4 : ∀ b o, b ∉ S :: wr → s.heap.get? b = some o → (((h1.push { cls := .type "list", data := .seq (pre cont i ++ cont i) }).update S (Obj.mapSeq fun _ => #[Value.ref h1.objs.size])).update S (Obj.mapSeq fun _ => #[Value.ref h1.objs.size])).get? b = some o := fun b o hb e =>
      (e4 b (fun z => hb (by rw [z]; exact List.mem_cons_self))).trans (pk _ _ (k1 b o hb e))
    refine ih (i + 1) _ h1.objs.size 0 _ (by omega) hlt (W.frame (i + 1) ⟨h1, g1, d1, t1, o1⟩ _ _ hst1 (Nat.le_refl _) fun b hb o e => (e4 b (fun z => hSf (z ▸ hb))).trans (pk _ _ e)) hS4 ((e4 _ (Ne.symm neS)).trans eT) (fun z => ?_) (fun j v hv => ?_) fun s2 T2 c2 hm2 e2 hor => hR s2 T2 c2 ?_ e2 ?_
    · rcases List.mem_cons.mp z with z | z
      · exact neS z.symm
      · exact Nat.lt_irrefl _ (Nat.lt_trans (hlo _ (W.sub _ z)) ltS)
    · obtain ⟨q, m2, r1, r2, r3⟩ := hP j v hv
      exact ⟨q, m2, r1, r2, k4 q _ r2 r3⟩
    · exact ⟨fun b o hb e => hm2.heap b o hb (k4 b o hb e), W.gtrans _ _ _ hm.gens hm2.gens, hm2.drawn.trans hm.drawn, hm2.os.trans hm.os, Nat.le_trans hm.toks hm2.toks⟩
    · rcases hor with ⟨y, _⟩ | y
      · exact .inr (by rw [y]; exact ltS)
      · exact .inr y
end
section
variable {prog : Program} {w : World} {A : Around} {E : Value → Shared → Prop} {s : Shared}
theorem args2 (a b : Value) : argsOk "sum" ⟨[a, b], []⟩ := by unfold argsOk; kernel_rfl
theorem call_sum2 (hh : A.handled = none) {L T0 : Addr} {items : Array Value} {cont : Nat → Array Value} {c0 : Nat} {Q : Value → Shared → Prop} (hl : s.heap.IsList L items) (hT : s.heap.get? T0 = some (lstO #[] c0))
    (hP : ∀ j v, items[j]? = some v → ∃ p m, v = .ref p ∧ s.heap.get? p = some (lstO (cont j) m)) (hz : ∀ i, i ≤ items.size → (pre cont i).size ≤ sizeLine) (hne : 0 < items.size)
    (h : ∀ h' tk T' c', (∀ b o, s.heap.get? b = some o → h'.get? b = some o) → s.heap.objs.size ≤ T' → h'.get? T' = some (lstO (pre cont items.size) c') → Q (.ref T') { s with heap := h', toks := tk }) :
    wpAny (model prog w) A (call (.builtin "sum") [.ref L, .ref T0]) Q E s := by
  obtain ⟨oL, eL, cL⟩ := id hl
  refine call_function_tree F.kind_sum F.plain_sum F.entry_sum (args2 _ _) ?_
  unfold Builtin.«sum»
  simp only [List.length_cons, List.length_nil]
  rw [if_neg (by decide)]
  refine wpAny_bind (wpAny_of_eq (show Builtin.Builtins.bindParams "sum" ["start"] 0 ⟨[.ref T0], []⟩ = pure [some (.ref T0)] from rfl) ?_)
  refine wpAny_bind (wpAny_pyIter_list hl ?_)
  obtain ⟨hp, g, dr, tk, os⟩ := s
  have k1 : ∀ b o, hp.get? b = some o → (hp.push { cls := .type "list_iterator", data := .fields #[.ref L, .int 0 0] }).get? b = some o := fun b o e => Heap.get?_push_of_some _ e
  have tT : ∀ t : Nat, Shared.TypeIs ⟨hp.push { cls := .type "list_iterator", data := .fields #[.ref L, .int 0 0] }, g, dr, t, os⟩ (.ref T0) "list" := fun t => ⟨_, k1 _ _ hT, rfl⟩
  refine wpAny_bind (wpAny_pure ?_)
  simp only [List.forIn_cons, List.forIn_nil]
  refine wpAny_bind (wpAny_bind (wpAny_bind (wpAny_isInstance (T := "list") (b := false) (tT _) F.sub_list_str ?_)))
  simp only [Bool.false_eq_true, if_false]
  refine wpAny_pure (wpAny_bind (wpAny_bind (wpAny_isInstance (T := "list") (b := false) (tT _) F.sub_list_bytes ?_)))
  simp only [Bool.false_eq_true, if_false]
  refine wpAny_pure (wpAny_bind (wpAny_bind (wpAny_isInstance (T := "list") (b := false) (tT _) F.sub_list_bytearray ?_)))
  simp only [Bool.false_eq_true, if_false]
  refine wpAny_pure (wpAny_pure (wpAny_bind (wpAny_newObj_type ?_)))
  have W := (Walks.list (prog := prog) (w := w) (A := A.in1) hh hp.objs.size L (Nat.ne_of_lt (Heap.lt_size eL)) items).toS
  obtain ⟨h1, hd1⟩ : ∃ h1, h1 = hp.push { cls := .type "list_iterator", data := .fields #[.ref L, .int 0 0] } := ⟨_, rfl⟩
  rw [← hd1] at k1 ⊢
  have eI : h1.get? hp.objs.size = some { cls := .type "list_iterator", data := .fields #[.ref L, .int 0 0] } := by rw [hd1]; exact Heap.get?_push_size _ rfl
  have z1 : h1.objs.size = hp.objs.size + 1 := by rw [hd1, Heap.size_push]
  have k2 : ∀ b o, h1.get? b = some o → (h1.push { cls := .type "list", data := .seq #[.ref T0] }).get? b = some o := fun b o e => Heap.get?_push_of_some _ e
  have lt0 : ∀ {b o}, hp.get? b = some o → b < hp.objs.size := fun e => Heap.lt_size e
  have notIn : ∀ {b o}, hp.get? b = some o → b ∉ [h1.objs.size, hp.objs.size] := fun {b o} e hm => by
    have y := lt0 e
    rcases List.mem_cons.mp hm with q | hm
    · rw [q, z1] at y; exact Nat.lt_irrefl _ (Nat.lt_of_succ_lt y)
    · rw [List.mem_singleton.mp hm] at y; exact Nat.lt_irrefl _ y
  have hlo : ∀ b ∈ [hp.objs.size, L], b < h1.objs.size := fun b hb => by
    rcases List.mem_cons.mp hb with q | hb
    · rw [q, z1]; exact Nat.lt_succ_self _
    · rw [List.mem_singleton.mp hb, z1]; exact Nat.lt_succ_of_lt (lt0 eL)
  refine wpAny_pure ⟨plainId_quiet F.plain_sum_loop _, loop_lists W cont h1.objs.size (fun hm => Nat.lt_irrefl _ (hlo _ hm)) hlo hz items.size 0 _ T0 c0 0 rfl (Nat.zero_le _) ⟨⟨_, k2 _ _ eI, rfl, rfl⟩, ⟨_, k2 _ _ (k1 _ _ eL), cL⟩⟩ (Heap.get?_push_size _ rfl) (k2 _ _ (k1 _ _ hT)) (notIn hT)
    (fun j v hv => ?_) fun s' T' c' hm e hor => ?_⟩
  · obtain ⟨p, m, rfl, e⟩ := hP j v hv
    exact ⟨p, m, rfl, notIn e, k2 _ _ (k1 _ _ e)⟩
  · obtain ⟨h', g', d', t', os'⟩ := s'
    obtain rfl : g' = g := hm.gens
    obtain rfl : d' = dr := hm.drawn
    obtain rfl : os' = os := hm.os
    refine h h' t' T' c' (fun b o q => hm.heap b o (notIn q) (k2 _ _ (k1 _ _ q))) ?_ e
    rcases hor with ⟨_, y⟩ | y
    · omega
    · rw [z1] at y; exact Nat.le_of_lt (Nat.lt_of_succ_lt y)
end
end SumL
end PySem
namespace My
open PySem PySem.Spec PyProof.Rows L2
theorem pre_at {its : List (Array Value)} : ∀ i, i ≤ its.length → SumL.pre (fun j => its.getD j #[]) i = ((its.take i).map Array.toList).flatten.toArray
  | 0, _ => by simp [SumL.pre]
  | i + 1, h => by
    have ih := pre_at (its := its) i (by omega)
    show SumL.pre _ i ++ its.getD i #[] = _
    have e1 : its[i]? = some its[i] := List.getElem?_eq_getElem (by omega)
    rw [ih, List.take_succ, List.getD_eq_getElem?_getD, e1]
    apply Array.toList_inj.mp
    simp only [List.map_append, List.flatten_append, Option.toList_some, List.map_cons, List.map_nil, List.flatten_cons, List.flatten_nil, List.append_nil, Option.getD_some, Array.toList_append]
/-- sum(lists, []): at least one list -/
def rSumL (K : PySem.W.Frag) : List V → Hp → VK → Prop := fun vs H Q => ∃ (a b : Addr) (ps : List (Addr × List V)), vs = [.ref a, .ref b] ∧ SqL K H a (ps.map fun p => V.ref p.1) ∧ H b = some (.lst []) ∧ ps ≠ [] ∧ (∀ p ∈ ps, H p.1 = some (.lst p.2)) ∧
  ((ps.map (·.2)).flatten).length ≤ sizeLine ∧ ∀ p, H p = none → Q (.ref p) (upd H p (.lst (ps.map (·.2)).flatten))
theorem vals_refs {H : L2.Hp} {X : Cx} {pins : List (Addr × Obj)} {σ : L2.St} {s : Shared} (I : Inv X pins σ H s) : ∀ {ps : List (Addr × List V)} {us : List Value}, Vals (ps.map fun p => V.ref p.1) us → (∀ p ∈ ps, H p.1 = some (.lst p.2)) →
    us = ps.map (fun p => Value.ref p.1) ∧ ∃ its : List (List Value), its.length = ps.length ∧ Vals (ps.map (·.2)).flatten its.flatten ∧ ∀ (i : Nat) (p : Addr × List V) (l : List Value), ps[i]? = some p → its[i]? = some l → Vals p.2 l ∧ ∃ m, s.heap.get? p.1 = some (SumL.lstO l.toArray m)
  | [], _, .nil, _ => ⟨rfl, [], rfl, .nil, fun i p l h => by simp at h⟩
  | p :: r, _ :: us, .cons rv rr, h => by
    obtain ⟨e, its, hl, hv, hi⟩ := vals_refs I rr fun q hq => h q (List.mem_cons_of_mem _ hq)
    cases rv
    obtain ⟨_, l, m, rl, _, el⟩ := I.lstM (h p List.mem_cons_self)
    refine ⟨by rw [e]; rfl, l :: its, by simp [hl], ?_, fun i q k h1 h2 => ?_⟩
    · simp only [List.map_cons, List.flatten_cons]
      exact rl.append hv
    · cases i with
      | zero =>
        simp only [List.getElem?_cons_zero, Option.some.injEq] at h1 h2
        subst h1; subst h2
        exact ⟨rl, m, el⟩
      | succ i => exact hi i q k (by simpa using h1) (by simpa using h2)
theorem cr_sumL {X : Cx} (hc : X.calm = true) : CallR X (.builtin "sum") (rSumL X.K) := by
  intro pins s σ H vs us Q I r h
  obtain ⟨a, b, ps, rfl, hs, hb, hne, hp, hz, q⟩ := h
  obtain ⟨its, rv, hl, _⟩ := I.list hs
  cases r with
  | cons ra rr =>
    cases rr with
    | cons rb rn =>
      cases rn; cases ra; cases rb
      obtain ⟨e, ls, hlen, hvals, hi⟩ := vals_refs I rv hp
      subst e
      obtain ⟨_, ib, cb, rib, _, eb⟩ := I.lstM hb
      cases rib
      have hll : (ls.map List.toArray).length = ps.length := by simp [hlen]
      have hsz : (ps.map fun p => Value.ref p.1).toArray.size = ps.length := by simp
      have atAll : SumL.pre (fun j => (ls.map List.toArray).getD j #[]) ps.length = ls.flatten.toArray := by
        rw [pre_at _ (by omega), ← hll, List.take_length]
        simp [List.map_map, Function.comp_def]
      refine SumL.call_sum2 (I.ok.hd hc) hl.isList eb (cont := fun j => (ls.map List.toArray).getD j #[]) (fun j v hv => ?_) (fun i hi' => ?_) (by rw [hsz]; exact List.length_pos_iff.mpr hne) (fun h' tk T' c' kp hT e => ?_)
      · have hj : (ps.map fun p => Value.ref p.1)[j]? = some v := by simpa using hv
        rw [List.getElem?_map] at hj
        cases ep : ps[j]? with
        | none => rw [ep] at hj; cases hj
        | some p =>
          rw [ep] at hj
          cases hj
          have hlt : j < ls.length := by rw [hlen]; exact (List.getElem?_eq_some_iff.mp ep).1
          obtain ⟨_, m, em⟩ := hi j p ls[j] ep (List.getElem?_eq_getElem hlt)
          refine ⟨p.1, m, rfl, ?_⟩
          rw [List.getD_eq_getElem?_getD, List.getElem?_map, List.getElem?_eq_getElem hlt]
          exact em
      · rw [hsz] at hi'
        rw [pre_at _ (by omega), List.size_toArray]
        have e1 := hvals.length
        have e2 : (ls.flatten).length = (((ls.map List.toArray).map Array.toList).flatten).length := by simp [List.map_map, Function.comp_def]
        have e3 : (((ls.map List.toArray).take i).map Array.toList).flatten.length ≤ (((ls.map List.toArray).map Array.toList).flatten).length := by
          conv => rhs; rw [← List.take_append_drop i (ls.map List.toArray)]
          rw [List.map_append, List.flatten_append, List.length_append]
          omega
        omega
      · rw [hsz, atAll] at e
        exact ⟨.ref T', _, I.laid (t' := tk) (o := .lst (ps.map (·.2)).flatten) kp hT ⟨hz, _, c', hvals, e⟩, rfl, q T' (I.hok.fresh hT)⟩
end My

/-! xs == [] and xs != [], whatever is in the list. -/
namespace My
open PySem PySem.Spec PyProof.Rows L2
def rEqNil (K : PySem.W.Frag) : R2 := fun x y H Q => ∃ a b xs, x = .ref a ∧ y = .ref b ∧ SqL K H a xs ∧ SqL K H b [] ∧ Q (.bl xs.isEmpty) H
def rNeNil (K : PySem.W.Frag) : R2 := fun x y H Q => ∃ a b xs, x = .ref a ∧ y = .ref b ∧ SqL K H a xs ∧ SqL K H b [] ∧ Q (.bl (!xs.isEmpty)) H
section
variable {X : Cx}
theorem op_eqNil (hu : X.A.units + 64 < cLine) : OpR X (compareOp .Eq) (rEqNil X.K) := by
  rintro pins s σ H x y v u Q I rx ry ⟨a, b, xs, rfl, rfl, ha, hb, q⟩
  cases xs with
  | nil => exact op_eqD hu pins s σ H _ _ v u Q I rx ry ⟨.list [], .list [], .lst ha .nil, .lst hb .nil, rfl, rfl, q⟩
  | cons z r =>
    cases rx; cases ry
    obtain ⟨its, rv, pa, _⟩ := I.list ha
    obtain ⟨jts, rw_, pb, _⟩ := I.list hb
    cases rw_
    cases rv
    exact SeqAt.RcAt.lists_lengths pa.isList pb.isList (by simp) (by omega) _ _ _ _ ⟨.bl _, H, I, rfl, q⟩
theorem op_neNil (hu : X.A.units + 64 < cLine) : OpR X (compareOp .NotEq) (rNeNil X.K) := by
  rintro pins s σ H x y v u Q I rx ry ⟨a, b, xs, rfl, rfl, ha, hb, q⟩
  cases xs with
  | nil => exact op_neD hu pins s σ H _ _ v u Q I rx ry ⟨.list [], .list [], .lst ha .nil, .lst hb .nil, rfl, rfl, q⟩
  | cons z r =>
    cases rx; cases ry
    obtain ⟨its, rv, pa, _⟩ := I.list ha
    obtain ⟨jts, rw_, pb, _⟩ := I.list hb
    cases rw_
    cases rv
    exact SeqAt.RcNeAt.lists_lengths pa.isList pb.isList (by simp) (by omega) _ _ _ _ ⟨.bl _, H, I, rfl, q⟩
/-- str(x) of a number or a text -/
theorem call_str_V : CallR X (.type "str") (fun xs H Q => ∃ x, xs = [x] ∧ ((∃ i, x = .int i ∧ i.natAbs.log2 < 1920 ∧ Q (.str (toString i)) H) ∨ ∃ a, x = .str a ∧ Q (.str a) H)) := by
  rintro pins s σ H xs us Q I r ⟨x, rfl, ⟨i, rfl, hz, q⟩ | ⟨a, rfl, q⟩⟩
  · exact call_str_int pins s σ H _ us Q I r ⟨i, rfl, hz, q⟩
  · exact SkE.call_str_str pins s σ H _ us Q I r ⟨a, rfl, q⟩
/-- as the layer's own, K told: for use in a comprehension's block -/
theorem call_isiX {K : PySem.W.Frag} (hK : X.K = K := by rfl) : CallR X (.builtin "isinstance") (rIsi K) := by
  subst hK
  exact call_isi
theorem call_list_ofX {K : PySem.W.Frag} (hK : X.K = K := by rfl) : CallR X (.type "list") (fun xs H Q => ∃ p ys, xs = [.ref p] ∧ (SqL K H p ys ∨ SqT K H p ys) ∧ ∀ l, H l = none → Q (.ref l) (upd H l (.lst ys))) := by
  subst hK
  exact call_list_of
end
end My

/-! Values whose kind is known, data that the frames may look into: not of one law. -/
namespace My
open PySem PySem.Spec PyProof.Rows L2
/-- values whose kind is known -/
inductive Known (H : Hp) : V → Prop where
  | non : Known H .non
  | bl (b : Bool) : Known H (.bl b)
  | int (i : Int) : Known H (.int i)
  | str (s : Str) : Known H (.str s)
  | lst {a : Addr} {xs : List V} (e : H a = some (.lst xs)) : Known H (.ref a)
  | tup {a : Addr} {xs : List V} (e : H a = some (.tup xs)) : Known H (.ref a)
  | dct {a : Addr} {kvs : List (Key × V)} (e : H a = some (.dK kvs)) : Known H (.ref a)
def isIntV : V → Bool
  | .int _ => true
  | _ => false
def isBlV : V → Bool
  | .bl _ => true
  | _ => false
def isStrV : V → Bool
  | .str _ => true
  | _ => false
theorem Known.kInt {K : PySem.W.Frag} {H : Hp} {x : V} (k : Known H x) : ∃ t, TyX K H x t ∧ PySem.W.kitOne K t (.type "int") = some (isIntV x || isBlV x) := by
  cases k with
  | non => exact ⟨_, .base .non, by rfl⟩
  | bl b => exact ⟨_, .base (.bl b), by rfl⟩
  | int i => exact ⟨_, .base (.int i), by rfl⟩
  | str s => exact ⟨_, .base (.str s), by rfl⟩
  | lst e => exact ⟨_, .base (.lst e), by rfl⟩
  | tup e => exact ⟨_, .base (.tup e), by rfl⟩
  | dct e => exact ⟨_, .base (.dK e), by rfl⟩
theorem Known.kBool {K : PySem.W.Frag} {H : Hp} {x : V} (k : Known H x) : ∃ t, TyX K H x t ∧ PySem.W.kitOne K t (.type "bool") = some (isBlV x) := by
  cases k with
  | non => exact ⟨_, .base .non, by rfl⟩
  | bl b => exact ⟨_, .base (.bl b), by rfl⟩
  | int i => exact ⟨_, .base (.int i), by rfl⟩
  | str s => exact ⟨_, .base (.str s), by rfl⟩
  | lst e => exact ⟨_, .base (.lst e), by rfl⟩
  | tup e => exact ⟨_, .base (.tup e), by rfl⟩
  | dct e => exact ⟨_, .base (.dK e), by rfl⟩
theorem Known.kStr {K : PySem.W.Frag} {H : Hp} {x : V} (k : Known H x) : ∃ t, TyX K H x t ∧ PySem.W.kitOne K t (.type "str") = some (isStrV x) := by
  cases k with
  | non => exact ⟨_, .base .non, by rfl⟩
  | bl b => exact ⟨_, .base (.bl b), by rfl⟩
  | int i => exact ⟨_, .base (.int i), by rfl⟩
  | str s => exact ⟨_, .base (.str s), by rfl⟩
  | lst e => exact ⟨_, .base (.lst e), by rfl⟩
  | tup e => exact ⟨_, .base (.tup e), by rfl⟩
  | dct e => exact ⟨_, .base (.dK e), by rfl⟩
theorem isInt_and {x : V} (z : (isIntV x || isBlV x) = true) : (!isBlV x) = isIntV x := by cases x <;> simp_all [isIntV, isBlV]
theorem isInt_no {x : V} (z : ¬ (isIntV x || isBlV x) = true) : isIntV x = false := by cases x <;> simp_all [isIntV, isBlV]
/-- no tuple -/
inductive NoTup (H : Hp) : V → Prop where
  | non : NoTup H .non
  | bl (b : Bool) : NoTup H (.bl b)
  | int (i : Int) : NoTup H (.int i)
  | str (s : Str) : NoTup H (.str s)
  | lst {a : Addr} {xs : List V} (e : H a = some (.lst xs)) : NoTup H (.ref a)
  | dct {a : Addr} {kvs : List (Key × V)} (e : H a = some (.dK kvs)) : NoTup H (.ref a)
theorem NoTup.kTup {K : PySem.W.Frag} {H : Hp} {x : V} (k : NoTup H x) : ∃ t, TyX K H x t ∧ PySem.W.kitOne K t (.type "tuple") = some false := by
  cases k with
  | non => exact ⟨_, .base .non, by rfl⟩
  | bl b => exact ⟨_, .base (.bl b), by rfl⟩
  | int i => exact ⟨_, .base (.int i), by rfl⟩
  | str s => exact ⟨_, .base (.str s), by rfl⟩
  | lst e => exact ⟨_, .base (.lst e), by rfl⟩
  | dct e => exact ⟨_, .base (.dK e), by rfl⟩
theorem kTup {K : PySem.W.Frag} {H : Hp} {a : Addr} {xs : List V} (e : H a = some (.tup xs)) : ∃ t, TyX K H (.ref a) t ∧ PySem.W.kitOne K t (.type "tuple") = some true := ⟨_, .base (.tup e), by rfl⟩
theorem Known.same {H H' : Hp} {x : V} (k : Known H x) (s : Same H H') : Known H' x := by
  cases k with
  | non => exact .non
  | bl b => exact .bl b
  | int i => exact .int i
  | str z => exact .str z
  | lst e => exact .lst (s _ _ e)
  | tup e => exact .tup (s _ _ e)
  | dct e => exact .dct (s _ _ e)
/-! ### data that the frames may look into -/
mutual
inductive TD (H : Hp) : V → PyData → Prop
  | non : TD H .non .none
  | bl (b : Bool) : TD H (.bl b) (.bool b)
  | int (i : Int) : TD H (.int i) (.int i)
  | str (s : Str) (h : s.length < 2 ^ 20) : TD H (.str s) (.str s)
  | lst {a : Addr} {xs : List V} {ds : List PyData} (e : H a = some (.lst xs)) (r : TDs H xs ds) : TD H (.ref a) (.list ds)
  | tup {a : Addr} {xs : List V} {ds : List PyData} (e : H a = some (.tup xs)) (r : TDs H xs ds) : TD H (.ref a) (.tuple ds)
inductive TDs (H : Hp) : List V → List PyData → Prop
  | nil : TDs H [] []
  | cons {v : V} {vs : List V} {d : PyData} {ds : List PyData} (h : TD H v d) (r : TDs H vs ds) : TDs H (v :: vs) (d :: ds)
end
mutual
theorem TD.dp {K : PySem.W.Frag} {H : Hp} : ∀ (d : PyData) (v : V), TD H v d → Dp K H v d
  | .none, _, h => by cases h; exact .non
  | .bool b, _, h => by cases h; exact .bl b
  | .int i, _, h => by cases h; exact .int i
  | .str s, _, h => by cases h; exact .str s
  | .list ds, _, h => by
    cases h with
    | lst e r => exact .lst (SqL.of e) (TDs.dp ds _ r)
  | .tuple ds, _, h => by
    cases h with
    | tup e r => exact .tup (SqT.of e) (TDs.dp ds _ r)
  | .dict kvs, _, h => by cases h
theorem TDs.dp {K : PySem.W.Frag} {H : Hp} : ∀ (ds : List PyData) (vs : List V), TDs H vs ds → DpAll K H vs ds
  | [], _, h => by cases h; exact .nil
  | d :: ds, _, h => by
    cases h with
    | cons h r => exact .cons (TD.dp d _ h) (TDs.dp ds _ r)
end
mutual
theorem TD.keep {H H' : Hp} (kl : ∀ a xs, H a = some (.lst xs) → H' a = some (.lst xs)) (kt : ∀ a xs, H a = some (.tup xs) → H' a = some (.tup xs)) : ∀ (d : PyData) (v : V), TD H v d → TD H' v d
  | .none, _, h => by cases h; exact .non
  | .bool b, _, h => by cases h; exact .bl b
  | .int i, _, h => by cases h; exact .int i
  | .str s, _, h => by cases h with | str _ z => exact .str s z
  | .list ds, _, h => by
    cases h with
    | lst e r => exact .lst (kl _ _ e) (TDs.keep kl kt ds _ r)
  | .tuple ds, _, h => by
    cases h with
    | tup e r => exact .tup (kt _ _ e) (TDs.keep kl kt ds _ r)
  | .dict kvs, _, h => by cases h
theorem TDs.keep {H H' : Hp} (kl : ∀ a xs, H a = some (.lst xs) → H' a = some (.lst xs)) (kt : ∀ a xs, H a = some (.tup xs) → H' a = some (.tup xs)) : ∀ (ds : List PyData) (vs : List V), TDs H vs ds → TDs H' vs ds
  | [], _, h => by cases h; exact .nil
  | d :: ds, _, h => by
    cases h with
    | cons h r => exact .cons (TD.keep kl kt d _ h) (TDs.keep kl kt ds _ r)
end
theorem TD.same {H H' : Hp} {v : V} {d : PyData} (h : TD H v d) (s : Same H H') : TD H' v d := h.keep (fun _ _ e => s _ _ e) (fun _ _ e => s _ _ e) d v
theorem TDs.same {H H' : Hp} {v : List V} {d : List PyData} (h : TDs H v d) (s : Same H H') : TDs H' v d := h.keep (fun _ _ e => s _ _ e) (fun _ _ e => s _ _ e) d v
theorem TD.known {H : Hp} {v : V} {d : PyData} (h : TD H v d) : Known H v := by
  cases h with
  | non => exact .non
  | bl b => exact .bl b
  | int i => exact .int i
  | str s _ => exact .str s
  | lst e _ => exact .lst e
  | tup e _ => exact .tup e
theorem TD.len {H : Hp} {v : V} {d : PyData} (h : TD H v d) : ∀ s, v = .str s → s.length < 2 ^ 20 := by
  rintro s rfl
  cases h with | str _ z => exact z
theorem TDs.pairs {H : Hp} : ∀ {vs : List V} {ds : List PyData}, TDs H vs ds → ∃ ys : List (V × PyData), vs = ys.map (·.1) ∧ ds = ys.map (·.2) ∧ ∀ y ∈ ys, TD H y.1 y.2
  | [], [], _ => ⟨[], rfl, rfl, fun _ h => by cases h⟩
  | v :: vs, d :: ds, .cons h r => by
    obtain ⟨ys, e1, e2, k⟩ := TDs.pairs r
    refine ⟨(v, d) :: ys, by rw [e1]; rfl, by rw [e2]; rfl, fun y hy => ?_⟩
    rcases List.mem_cons.mp hy with rfl | hy
    · exact h
    · exact k y hy
theorem TDs.of {H : Hp} : ∀ {ys : List (V × PyData)}, (∀ y ∈ ys, TD H y.1 y.2) → TDs H (ys.map (·.1)) (ys.map (·.2))
  | [], _ => .nil
  | y :: ys, h => .cons (h y List.mem_cons_self) (TDs.of fun z hz => h z (List.mem_cons_of_mem _ hz))
theorem NoTup.same {H H' : Hp} {x : V} (k : NoTup H x) (s : Same H H') : NoTup H' x := by
  cases k with
  | non => exact .non
  | bl b => exact .bl b
  | int i => exact .int i
  | str z => exact .str z
  | lst e => exact .lst (s _ _ e)
  | dct e => exact .dct (s _ _ e)
/-- arguments by keywords alone -/
def kwO {α : Type} (us ws : List α) : List α := match us with
  | [] => ws
  | _ :: _ => []
theorem kbind2 {K : PySem.W.Frag} {x qual : Str} {st : Stmt} {f : Addr} {fd : FuncData} {p q : Str} (F : Fun K x qual st f fd)
    (h2 : ∀ (kV doc pm : Value) (an : Option Addr) (cdv ct v w : Value), bindArgs (PySem.W.fnOf x qual (defArgs st) (defBody st) (defScope st) .none kV doc pm an cdv ct) ⟨[], [(p, v), (q, w)]⟩ = pure [(p, v), (q, w)]) :
    KBinds K fd [p, q] [p, q] kwO kwO := by
  obtain ⟨oc, od, kV, doc, pm, an, cdv, ct, osl, rfl, lk, hcd⟩ := F.ex
  refine ⟨fun s us ws _ hl => ?_, fun r1 r2 => ?_⟩
  · match us, hl with
    | [], hl =>
      have hl : ws.length = 2 := hl
      match ws, hl with
      | [v, w], _ => exact .of_eq (h2 kV doc pm an cdv ct v w)
    | a :: r, hl => exact absurd (show (0 : Nat) = 2 from hl) (by decide)
  · cases r1 with
    | nil => exact r2
    | cons _ _ => exact .nil
section
variable {X : Cx} {K : PySem.W.Frag}
/-! as the layer's own, K told: for use in a comprehension's block -/
theorem ix_listX (hK : X.K = K := by rfl) : IxR X (rIxL K) := by
  subst hK
  exact ix_list
theorem ix_tupX (hK : X.K = K := by rfl) : IxR X (rIxT K) := by
  subst hK
  exact ix_tup
theorem call_len_seqX (hK : X.K = K := by rfl) : CallR X (.builtin "len") (fun xs H Q => ∃ p ys, xs = [.ref p] ∧ (SqL K H p ys ∨ SqT K H p ys) ∧ Q (.int ys.length) H) := by
  subst hK
  exact call_len_seq
theorem pg_tupX {pos : Pos} {es : List Expr} {k : Nat} {t : TGs} {n : Nat} (hc : X.calm = true) (h : PGs X es t) (hn : (assignEach es X.env).length = n := by rfl) (hs : (assignEach es X.env).findIdx? (fun x => x.fst) = none := by rfl) (hK : X.K = K := by rfl) : PG X (.Tuple es k pos) (gTup K n t) := by
  subst hK
  exact pg_tup hc h hn hs
theorem op_in_seqX (hK : X.K = K := by rfl) : OpR X (compareOp .In) (rIn K false) := by
  subst hK
  exact op_in_seq
theorem op_notIn_seqX (hK : X.K = K := by rfl) : OpR X (compareOp .NotIn) (rIn K true) := by
  subst hK
  exact op_notIn_seq
theorem op_eqDX (hu : X.A.units + 64 < cLine) (hK : X.K = K := by rfl) : OpR X (compareOp .Eq) (rEqD K) := by
  subst hK
  exact op_eqD hu
theorem op_neDX (hu : X.A.units + 64 < cLine) (hK : X.K = K := by rfl) : OpR X (compareOp .NotEq) (rNeD K) := by
  subst hK
  exact op_neD hu
end
theorem wipe1 (σ : L2.St) (j : Nat) : wipe σ [j] = σ.set j none := rfl
theorem take_step1 {α : Type} {ys : List α} {i : Nat} {y : α} (h : ys[i]? = some y) : ys.take (i + 1) = ys.take i ++ [y] := by
  rw [List.take_add_one, h]; rfl
section
variable {α : Type} {K : PySem.W.Frag} {a : Addr} {te : TE} {j : Nat} {σ : L2.St} {H1 : Hp} {D : Addr} {Qd : Hp → Prop}
/-- [e for i in range], values reckoned from i alone -/
theorem lcV_range {lo : Int} {n : Nat} (f : Nat → V) (hD : H1 D = none) (hz : n < sizeLine)
    (he : ∀ i, i < n → ∀ (H : Hp) (Q : VK), Same H1 H → (∀ H', Same H H' → Q (f i) H') → te ((σ.set j none).set j (some (.int (lo + (i : Int))))) H Q)
    (hd : ∀ H, Same H1 H → H D = some (.lst ((List.range n).map f)) → Qd H) :
    ∃ W : Nat → Nat → Hp → Prop, (∃ m, W 0 m (upd H1 D (.lst []))) ∧ ∀ i m H, W i m H →
      ((Itr lo n).stop i H ∧ Qd H) ∨ ((Itr lo n).go i H ∧ ∃ Nx : Hp → Prop, (∀ H', Nx H' → ∃ m', m' < m ∧ W (i + 1) m' H') ∧ ∀ y H', (Itr lo n).yld i H y H' → gName j y (wipe σ [j]) H' fun σ2 H2 => wipe σ2 [j] = wipe σ [j] ∧ tYes σ2 H2 fun b H3 =>
        if b = true then te σ2 H3 fun z H4 => ∃ acc, H4 D = some (.lst acc) ∧ acc.length < sizeLine ∧ Nx (upd H4 D (.lst (acc ++ [z]))) else Nx H3) := by
  refine lc_range (vs := [j]) (fun i H => Same H1 H ∧ H D = some (.lst ((List.range i).map f))) ⟨same_upd hD, upd_same⟩ ?_ ?_
  · rintro i H hi ⟨sm, hl⟩
    refine ⟨by simp [wipe1, List.set_set], ?_⟩
    refine he i hi H _ sm fun H2 s2 => ?_
    refine ⟨_, s2 _ _ hl, ?_, fun b o e => ?_, ?_⟩
    · rw [List.length_map, List.length_range]; omega
    · rw [upd_ne (ne_of_none e hD)]; exact s2 _ _ (sm _ _ e)
    · rw [upd_same, List.range_succ, List.map_append]; rfl
  · rintro H ⟨sm, hl⟩
    exact hd H sm hl
/-- over a list, over a tuple -/
theorem lcV_list {ys : List α} (g f : α → V) (hD : H1 D = none) (hS : H1 a = some (.lst (ys.map g))) (hz : ys.length < sizeLine)
    (he : ∀ y, y ∈ ys → ∀ (H : Hp) (Q : VK), Same H1 H → (∀ H', Same H H' → Q (f y) H') → te ((σ.set j none).set j (some (g y))) H Q)
    (hd : ∀ H, Same H1 H → H D = some (.lst (ys.map f)) → Qd H) :
    ∃ W : Nat → Nat → Hp → Prop, (∃ m, W 0 m (upd H1 D (.lst []))) ∧ ∀ i m H, W i m H →
      ((Itl K a).stop i H ∧ Qd H) ∨ ((Itl K a).go i H ∧ ∃ Nx : Hp → Prop, (∀ H', Nx H' → ∃ m', m' < m ∧ W (i + 1) m' H') ∧ ∀ y H', (Itl K a).yld i H y H' → gName j y (wipe σ [j]) H' fun σ2 H2 => wipe σ2 [j] = wipe σ [j] ∧ tYes σ2 H2 fun b H3 =>
        if b = true then te σ2 H3 fun z H4 => ∃ acc, H4 D = some (.lst acc) ∧ acc.length < sizeLine ∧ Nx (upd H4 D (.lst (acc ++ [z]))) else Nx H3) := by
  refine lc_list (K := K) (a := a) (xs := ys.map g) (vs := [j]) (fun i H => Same H1 H ∧ H D = some (.lst ((ys.take i).map f))) ⟨same_upd hD, upd_same⟩ (fun i H _ p => p.1.seq (SqL.of hS)) ?_ ?_
  · rintro i x H hx ⟨sm, hl⟩
    obtain ⟨y, ey, rfl⟩ : ∃ y, ys[i]? = some y ∧ x = g y := by
      rw [List.getElem?_map] at hx
      cases e : ys[i]? with
      | none => rw [e] at hx; cases hx
      | some z => rw [e] at hx; exact ⟨z, rfl, (Option.some.inj hx).symm⟩
    refine ⟨by simp [wipe1, List.set_set], ?_⟩
    refine he y (List.mem_of_getElem? ey) H _ sm fun H2 s2 => ?_
    refine ⟨_, s2 _ _ hl, ?_, fun b o e => ?_, ?_⟩
    · rw [List.length_map, List.length_take]; omega
    · rw [upd_ne (ne_of_none e hD)]; exact s2 _ _ (sm _ _ e)
    · rw [upd_same, take_step1 ey, List.map_append]; rfl
  · rintro H ⟨sm, hl⟩
    rw [List.length_map, List.take_length] at hl
    exact hd H sm hl
theorem lcW_tup {ys : List α} (g f : α → V) (hD : H1 D = none) (hS : H1 a = some (.tup (ys.map g))) (hz : ys.length < sizeLine)
    (he : ∀ y, y ∈ ys → ∀ (H : Hp) (Q : VK), Same H1 H → (∀ H', Same H H' → Q (f y) H') → te ((σ.set j none).set j (some (g y))) H Q)
    (hd : ∀ H, Same H1 H → H D = some (.lst (ys.map f)) → Qd H) :
    ∃ W : Nat → Nat → Hp → Prop, (∃ m, W 0 m (upd H1 D (.lst []))) ∧ ∀ i m H, W i m H →
      ((Itt K a).stop i H ∧ Qd H) ∨ ((Itt K a).go i H ∧ ∃ Nx : Hp → Prop, (∀ H', Nx H' → ∃ m', m' < m ∧ W (i + 1) m' H') ∧ ∀ y H', (Itt K a).yld i H y H' → gName j y (wipe σ [j]) H' fun σ2 H2 => wipe σ2 [j] = wipe σ [j] ∧ tYes σ2 H2 fun b H3 =>
        if b = true then te σ2 H3 fun z H4 => ∃ acc, H4 D = some (.lst acc) ∧ acc.length < sizeLine ∧ Nx (upd H4 D (.lst (acc ++ [z]))) else Nx H3) := by
  refine lc_tup (K := K) (a := a) (xs := ys.map g) (vs := [j]) (fun i H => Same H1 H ∧ H D = some (.lst ((ys.take i).map f))) ⟨same_upd hD, upd_same⟩ (fun i H _ p => SqT.of (p.1 _ _ hS)) ?_ ?_
  · rintro i x H hx ⟨sm, hl⟩
    obtain ⟨y, ey, rfl⟩ : ∃ y, ys[i]? = some y ∧ x = g y := by
      rw [List.getElem?_map] at hx
      cases e : ys[i]? with
      | none => rw [e] at hx; cases hx
      | some z => rw [e] at hx; exact ⟨z, rfl, (Option.some.inj hx).symm⟩
    refine ⟨by simp [wipe1, List.set_set], ?_⟩
    refine he y (List.mem_of_getElem? ey) H _ sm fun H2 s2 => ?_
    refine ⟨_, s2 _ _ hl, ?_, fun b o e => ?_, ?_⟩
    · rw [List.length_map, List.length_take]; omega
    · rw [upd_ne (ne_of_none e hD)]; exact s2 _ _ (sm _ _ e)
    · rw [upd_same, take_step1 ey, List.map_append]; rfl
  · rintro H ⟨sm, hl⟩
    rw [List.length_map, List.take_length] at hl
    exact hd H sm hl
end
theorem ixN_nat {n j : Nat} {z : Int} (h : j < n) (e : z = (j : Nat)) : ixN n z = some j := by
  subst e
  unfold ixN
  rw [if_pos (by omega), if_pos (by omega)]; rfl
theorem PotAt.ne {H : Hp} {p a : Addr} {n : Nat} (h : PotAt H p n) (e : H a = none) : a ≠ p := fun z => by
  obtain ⟨o, s, c, h1, _⟩ := h
  rw [z, h1] at e; cases e
theorem PotAt.kt {H H' : Hp} {p : Addr} {n : Nat} (h : PotAt H p n) (b : But p H H') : ∀ a xs, H a = some (.tup xs) → H' a = some (.tup xs) := fun a xs e => b a _ (fun z => by
  obtain ⟨o, s, c, h1, _⟩ := h
  rw [z, h1] at e; cases e) e
/-- a statement that nothing comes to -/
theorem ps_never {X : Cx} {st : Stmt} : PS X st (fun _ _ _ => False) := ⟨fun _ _ _ _ _ _ z => z.elim⟩
theorem fmod_lo {i u : Int} (h : 0 < u) : 0 ≤ i.fmod u := by rw [Int.fmod_eq_emod_of_nonneg _ (by omega)]; exact Int.emod_nonneg _ (by omega)
theorem fmod_hi {i u : Int} (h : 0 < u) : i.fmod u < u := by rw [Int.fmod_eq_emod_of_nonneg _ (by omega)]; exact Int.emod_lt_of_pos _ h
theorem abs_lt {i : Int} {n : Nat} (h0 : 0 ≤ i) (h : i < 2 ^ n) : i.natAbs < 2 ^ n := by
  have e : (i.natAbs : Int) = i := by omega
  have z : ((2 ^ n : Nat) : Int) = 2 ^ n := by simp
  omega
theorem ne_self (v : V) : ¬ (!decide (v = v)) = true := by simp
theorem sz_line {n : Nat} (h : n ≤ 200000) : n ≤ sizeLine := by rw [sizeLine_eq]; omega
theorem all_rep (n : Nat) : (List.replicate n true).all id = true := by
  rw [List.all_eq_true]; intro x hx; exact (List.mem_replicate.mp hx).2
end My

/-! for i, x in enumerate(t), t a tuple. -/
namespace My
open PySem PySem.Spec PyProof.Rows L2
open PySem.Sem (wp)
open AutoSeq1 (wpAny_loadPart')
theorem meets_enumT (l : Addr) (items : Array Value) (n : Nat) (dc0 : Option Addr) (sl : Array (Option Value)) :
    Meets (Builtin.«enumerate.__new__» ⟨[.type "enumerate", .ref l], []⟩) (fun _ R s => s.heap.get? l = some { cls := .type "tuple", dict := dc0, data := .seq items n, slots := sl } ∧
      R (.ok (.ret (.ref (s.heap.push { cls := .type "tuple_iterator", data := .fields #[.ref l, .int 0 0] }).objs.size)))
        { s with heap := (s.heap.push { cls := .type "tuple_iterator", data := .fields #[.ref l, .int 0 0] }).push { cls := .type "enumerate", data := .fields #[.none, .bool false, .ref s.heap.objs.size, rawInt 0, .none, .none] } }) :=
  .of_wp fun prog w A R s h => by
    obtain ⟨hp, g, d, tkn, osS⟩ := s; obtain ⟨hTl, h⟩ := h
    have hsub := sub_enumerate
    have hTup : Heap.IsTuple (Shared.heap ⟨hp, g, d, tkn, osS⟩) l items := ⟨_, hTl, rfl, n, rfl⟩
    wp_walk using wpAny_loadPart' hTl
    refine wpAny_stack_any fun stt => wpAny_pure ?_
    split
    · rename_i c _ _ _ _ _
      cases (c == Value.type "enumerate")
      · wp_walk using wpAny_loadPart' hTl, wpAny_pyIter_tuple hTup
        exact ⟨_, rfl, h⟩
      · wp_walk using wpAny_loadPart' hTl, wpAny_pyIter_tuple hTup
        exact ⟨_, rfl, h⟩
    · wp_walk using wpAny_loadPart' hTl, wpAny_pyIter_tuple hTup
      exact ⟨_, rfl, h⟩
section
variable {prog : Program} {w : World} {A : Around} {E : Value → Shared → Prop} {s : Shared}
theorem call_enumT {l : Addr} {items : Array Value} {Q : Value → Shared → Prop} (hTup : s.heap.IsTuple l items)
    (h : ∀ h', IsEnum h' (s.heap.objs.size + 1) s.heap.objs.size 0 .none → h'.IsTupleIter s.heap.objs.size l 0 → h'.objs.size = s.heap.objs.size + 2 →
      (∀ b o, s.heap.get? b = some o → h'.get? b = some o) → Q (.ref (s.heap.objs.size + 1)) { s with heap := h' }) :
    wpAny (model prog w) A (call (.type "enumerate") [.ref l]) Q E s := by
  obtain ⟨⟨c, dc0, dat, sl⟩, hTl, hCls, n, hDat⟩ := hTup
  replace hCls : c = .type "tuple" := hCls
  replace hDat : dat = .seq items n := hDat
  subst hCls hDat
  refine callType_new F.called_enumerate (by decide) (F.typeCall_enumerate_1 _) (F.newCall_enumerate_1 _) (fun obj => F.args_object_init_2 obj _) F.entry_enumerate_new
    (meets_enumT l items n dc0 sl) ⟨hTl, ?_⟩
  have hSize : (s.heap.push { cls := .type "tuple_iterator", data := .fields #[.ref l, .int 0 0] }).objs.size = s.heap.objs.size + 1 := Heap.size_push ..
  show _ ∧ _
  rw [hSize]
  have hEn : IsEnum ((s.heap.push { cls := .type "tuple_iterator", data := .fields #[.ref l, .int 0 0] }).push
      { cls := .type "enumerate", data := .fields #[.none, .bool false, .ref s.heap.objs.size, rawInt 0, .none, .none] }) (s.heap.objs.size + 1) s.heap.objs.size 0 .none := by
    have := Heap.get?_push_size (s.heap.push { cls := .type "tuple_iterator", data := .fields #[.ref l, .int 0 0] })
      (o := { cls := .type "enumerate", data := .fields #[.none, .bool false, .ref s.heap.objs.size, rawInt 0, .none, .none] }) rfl
    rw [hSize] at this; exact this
  refine ⟨⟨_, hEn, rfl⟩, h _ hEn ⟨_, Heap.get?_push_of_some _ (Heap.get?_push_size _ rfl), rfl, rfl⟩ (by rw [Heap.size_push, hSize]) fun b o x => Heap.get?_push_of_some _ (Heap.get?_push_of_some _ x)⟩
theorem draws_tup {it t : Addr} {items : Array Value} (nEi : t ≠ it) (hh : A.handled = none) : Draws prog w A it [it, t] items.size (fun i x => items[i]? = some x) (fun i h => h.IsTupleIter it t i ∧ h.IsTuple t items) where
  live := fun i h ⟨⟨o, e, _⟩, _⟩ => ⟨o, e⟩
  frame := fun i h h' ⟨⟨o, e, r⟩, ⟨o2, e2, r2⟩⟩ k => ⟨⟨o, k it (by simp) o e, r⟩, ⟨o2, k t (by simp) o2 e2, r2⟩⟩
  item := fun i s Q E hi ⟨stt, ht⟩ hEnd => by
    have hItem : items[i]? = some items[i] := Array.getElem?_eq_getElem hi
    refine RZ.nextOf_tuple_item stt ht hItem fun h' st' sBut => hEnd items[i] h' s.toks hItem ⟨st', ?_⟩ sBut
    obtain ⟨o2, e2, r2⟩ := ht
    exact ⟨o2, (sBut.2 t nEi).trans e2, r2⟩
  done := fun s Q E ⟨stt, ht⟩ hExc => RZ.nextOf_tuple_end hh stt ht (Array.getElem?_eq_none (Nat.le_refl _)) hExc
end
theorem enumT_end {prog : Program} {w : World} {A : Around} {E : Value → Shared → Prop} {s : Shared} {e it l : Addr} {i : Nat} {items : Array Value} {o0 : Value} {Q : Option Value → Shared → Prop} (hh : A.handled = none)
    (hEn : IsEnum s.heap e it i o0) (hTi : s.heap.IsTupleIter it l i) (hTl : s.heap.IsTuple l items) (hItem : items[i]? = none)
    (hEnd : ∀ h', Heap.ExtBut it s.heap h' → Q none { s with heap := h' }) : wpAny (model prog w) A (pyNext (.ref e)) Q E s := by
  have hT : s.TypeIs (.ref e) "enumerate" := ⟨_, hEn, rfl⟩
  unfold pyNext
  refine wpAny_bind (wpAny_attempt (wpAny_callSpecial?_slot (name := Str.ofString "__next__") hT F.slot_enumerate_next
    (wpAny_call_entry F.slot_enumerate_next hT F.entry_enumerate_next ?_ (F.args_enumerate_next_1 _))))
  show wpAny _ _ (field (.ref e) 2 >>= _) _ _ _
  refine wpAny_bind (wpAny_field hEn rfl (x := .ref it) rfl ?_)
  refine wpAny_bind (RZ.nextOf_tuple_end hh hTi hTl hItem fun h' x hEn2 hItem2 => ?_)
  obtain ⟨o, ho, hCls⟩ := hItem2
  refine wpAny_bind (wpAny_isInstance (T := "StopIteration") (b := true) ⟨o, ho, hCls⟩ isSubtype_stop ?_)
  exact wpAny_pure (hEnd _ hEn2)
/-- the tuple at a, each item in a new pair -/
def IteT (K : PySem.W.Frag) (a : Addr) : It :=
  ⟨fun i H => ∃ (xs : List V) (x : V), SqT K H a xs ∧ xs[i]? = some x, fun i H v H' => ∃ T x, v = .ref T ∧ H T = none ∧ H' = upd H T (.tup [.int (i : Nat), x]) ∧ ∀ xs, SqT K H a xs → xs[i]? = some x, fun i H => ∃ xs : List V, SqT K H a xs ∧ xs.length ≤ i⟩
theorem turn_enumT {P : Program} {w : World} {K : PySem.W.Frag} {elts : List Expr} {kk : Nat} {tpos : Pos} (a e it : Addr) :
    Turn P w K (.Tuple elts kk tpos) (IteT K a) [e, it] e (fun i h => (∃ o0, IsEnum h e it ((i : Nat) : Int) o0) ∧ h.IsTupleIter it a i ∧ e ≠ it) where
  mem := by simp
  obj := fun i h stt b hb => by
    obtain ⟨⟨o0, hEn⟩, ⟨o, ho, hCls, hDat⟩, _⟩ := stt
    have cse : b = e ∨ b = it := by simpa using hb
    rcases cse with z | z
    · rw [z]; exact ⟨_, hEn, fun v q => nomatch q⟩
    · rw [z]; exact ⟨o, ho, fun v q => by rw [hDat] at q; cases q⟩
  keep := fun i h h' stt k => let ⟨⟨o0, hEn⟩, hi, nEi⟩ := stt; ⟨⟨o0, k e (by simp) _ hEn⟩, hi.at fun o q => k it (by simp) o q, nEi⟩
  item := by
    intro X eP eW eK hCls i pn s σ H E I hFp stt hGo
    subst eP eW eK
    obtain ⟨⟨o0, hEn⟩, hTi, nEi⟩ := stt
    obtain ⟨xs, x, hSq, hItem⟩ := hGo
    obtain ⟨vals, rvals, p, hSize⟩ := I.tuple hSq
    have pt : s.heap.IsTuple a vals.toArray := p
    have eLt : e < s.heap.objs.size := Heap.lt_size hEn
    have iLt : it < s.heap.objs.size := by obtain ⟨_, q, _⟩ := hTi; exact Heap.lt_size q
    have nae : a ≠ e := fun z => by
      obtain ⟨o, eo, co, _⟩ := pt
      rw [z, hEn] at eo
      cases eo
      exact absurd (Value.type.inj co) (by decide)
    have nai : a ≠ it := fun z => by
      obtain ⟨o, eo, co, _⟩ := pt
      obtain ⟨o2, e2, c2, _⟩ := hTi
      rw [z, e2] at eo
      cases eo
      rw [c2] at co
      exact absurd (Value.type.inj co) (by decide)
    obtain ⟨u0, hu0, ru0⟩ := rvals.get hItem
    have hlt : i < vals.toArray.size := by
      have := (List.getElem?_eq_some_iff.mp hu0).1
      simpa using this
    have nef : e ∉ [it, a] := fun z => by
      rcases List.mem_cons.mp z with z | z
      · exact nEi z
      · exact nae (List.mem_singleton.mp z).symm
    refine wpAny_pyNext_enum_itemD (draws_tup (items := vals.toArray) nai (show X.A.in1.handled = none from I.ok.hd hCls)) hEn ⟨hTi, pt⟩ hlt nEi nef fun u h' tkn hu ho ⟨hTi2, _⟩ hT hSz hKeep => ?_
    have rU : RelV x u := by
      have : vals[i]? = some u := by simpa using hu
      rw [hu0] at this; cases this; exact ru0
    refine ⟨_, rfl, wpAny_letOwnedTupleGo_enum (s := { s with heap := h', toks := tkn + 1 }) ho fun h'' hEn2 sBut => ?_⟩
    have hTwo : h''.get? s.heap.objs.size = some { cls := .type "tuple", data := .seq #[.int i tkn, u] } := (sBut.2 _ (Nat.ne_of_gt eLt)).trans hT
    have fresh : ObjOk X.prog X.w (upd H s.heap.objs.size (.tup [.int (i : Nat), x])) h'' s.heap.objs.size (.tup [.int (i : Nat), x]) :=
      ⟨by show 2 ≤ sizeLine; decide, [.int i tkn, u], .cons ⟨_, rfl⟩ (.cons rU .nil), ⟨_, hTwo, rfl, _, rfl⟩⟩
    have Ia : Inv X pn σ (upd H s.heap.objs.size (.tup [.int (i : Nat), x])) { s with heap := h'', toks := tkn + 1 } :=
      I.turnedNew (ch := [e, it]) (fun b ob hb q => (sBut.2 b (fun z => hb (by simp [z]))).trans (hKeep b ob (fun z => hb (by simp [z])) (fun z => hb (by simp [z])) q)) hFp (Nat.le_refl _) fresh
    refine ⟨.ref s.heap.objs.size, _, Ia, rfl, ⟨_, x, rfl, I.hok.fresh (Nat.le_refl _), rfl, fun ys hy => by rw [I.tuple_inj hy hSq]; exact hItem⟩, ⟨⟨u, ?_⟩, hTi2.at fun o q => (sBut.2 it (Ne.symm nEi)).trans q, nEi⟩, fun b hb => ?_⟩
    · have e1 : ((i + 1 : Nat) : Int) = (i : Int) + 1 := by omega
      rw [e1]; exact hEn2
    · have hLt : b < s.heap.objs.size := by
        have cse : b = e ∨ b = it := by simpa using hb
        rcases cse with z | z
        · rw [z]; exact eLt
        · rw [z]; exact iLt
      rw [upd_ne (Nat.ne_of_lt hLt)]
      exact (hFp b hb).1
  done := by
    intro X eP eW eK hCls i pn s σ H E I hFp stt hGo
    subst eP eW eK
    obtain ⟨⟨o0, hEn⟩, hTi, nEi⟩ := stt
    obtain ⟨xs, hSq, hItem⟩ := hGo
    obtain ⟨vals, rvals, p, hSize⟩ := I.tuple hSq
    have pt : s.heap.IsTuple a vals.toArray := p
    obtain ⟨g0, g1, g2, g3, g4, g5⟩ := hFp it (by simp)
    have hTl := rvals.length
    have nai : a ≠ it := fun z => by
      obtain ⟨o, eo, co, _⟩ := pt
      obtain ⟨o2, e2, c2, _⟩ := hTi
      rw [z, e2] at eo
      cases eo
      rw [c2] at co
      exact absurd (Value.type.inj co) (by decide)
    exact enumT_end (I.ok.hd hCls) hEn hTi pt (by simp; omega) fun h' eb => ⟨rfl, I.turned (t' := s.toks) (fun b o hb q => eb b o hb q) g0 g1 g3 g4 g5⟩
  self := fun A i s Q E stt h => let ⟨⟨_, hEn⟩, _⟩ := stt; wpAny_pyIter_enum hEn h
def iEnumT (K : PySem.W.Frag) (ta : TA) : TI := fun σ H R => ta σ H fun vs H1 => ∃ a xs, vs = [.ref a] ∧ SqT K H1 a xs ∧ R (IteT K a) H1
theorem pi_enumT {X : Cx} {e : Expr} {ta : TA} {p pos tpos : Pos} {elts : List Expr} {kk : Nat} (hGo : Gl X "enumerate") (hMod : X.mg "enumerate" = none) (hArg : PA X [e] ta) (hs : starEach [e] X.env = [(false, eval e X.env)] := by rfl) :
    PI X (.Tuple elts kk tpos) (.Call (.Name "enumerate" p) [e] [] pos) (iEnumT X.K ta) := by
  refine ⟨fun pn s σ H R I h => ?_⟩
  refine Call_ (ld_blt I hGo hMod boot_enumerate (PyProof.Rows.callWith_type1 (thn (hArg.run pos pn s σ H _ I h) fun us s1 ⟨vs, H1, Ia, r1, q1⟩ => ?_) hs rfl))
  obtain ⟨a, xs, ex, hSq, q⟩ := q1
  subst ex
  cases r1 with
  | cons r rRest =>
    cases rRest
    cases r
    obtain ⟨vals, rvals, p', hSize⟩ := Ia.tuple hSq
    refine call_enumT (show s1.heap.IsTuple a vals.toArray from p') fun h' hEn hTi hSz hKeep => wpAny_pyIter_enum hEn ?_
    have Ib : Inv X pn σ H1 { s1 with heap := h' } := Ia.kept (t' := s1.toks) hKeep
    refine ⟨s1.heap.objs.size + 1, [s1.heap.objs.size + 1, s1.heap.objs.size], _, _, H1, rfl, Ib, turn_enumT a (s1.heap.objs.size + 1) s1.heap.objs.size, ⟨⟨.none, hEn⟩, hTi, Nat.succ_ne_self _⟩, fun b hb => ?_, q⟩
    have cse : b = s1.heap.objs.size + 1 ∨ b = s1.heap.objs.size := by simpa using hb
    have hLe : s1.heap.objs.size ≤ b := by
      rcases cse with z | z
      · rw [z]; exact Nat.le_add_right _ _
      · rw [z]; exact Nat.le_refl _
    exact Ia.fpOk hLe (Ia.hok.fresh hLe)
/-- [e for i, x in enumerate(t)], values reckoned from the place -/
theorem lcV_enumT {K : PySem.W.Frag} {a : Addr} {xs : List V} {te : TE} {i j : Nat} {σ : L2.St} {H1 : Hp} {D : Addr} {Qd : Hp → Prop} (f : Nat → V) (newD : H1 D = none) (at1 : H1 a = some (.tup xs)) (small : xs.length < sizeLine)
    (same : ∀ (k : Nat) (x : V), wipe (((wipe σ [i, j]).set i (some (.int (k : Nat)))).set j (some x)) [i, j] = wipe σ [i, j])
    (turn : ∀ (k : Nat) (x : V), xs[k]? = some x → ∀ (H : Hp) (Q : VK), Same H1 H → (∀ H', Same H H' → Q (f k) H') → te (((wipe σ [i, j]).set i (some (.int (k : Nat)))).set j (some x)) H Q)
    (fin : ∀ H, Same H1 H → H D = some (.lst ((List.range xs.length).map f)) → Qd H) :
    ∃ W : Nat → Nat → Hp → Prop, (∃ m, W 0 m (upd H1 D (.lst []))) ∧ ∀ n m H, W n m H →
      ((IteT K a).stop n H ∧ Qd H) ∨ ((IteT K a).go n H ∧ ∃ Nx : Hp → Prop, (∀ H', Nx H' → ∃ m', m' < m ∧ W (n + 1) m' H') ∧ ∀ y H', (IteT K a).yld n H y H' → gTup K 2 (gCons (gName i) (gCons (gName j) gNil)) y (wipe σ [i, j]) H' fun σ2 H2 => wipe σ2 [i, j] = wipe σ [i, j] ∧ tYes σ2 H2 fun b H3 =>
        if b = true then te σ2 H3 fun z H4 => ∃ acc, H4 D = some (.lst acc) ∧ acc.length < sizeLine ∧ Nx (upd H4 D (.lst (acc ++ [z]))) else Nx H3) := by
  refine ⟨fun n m H => n ≤ xs.length ∧ m = xs.length - n ∧ Same H1 H ∧ H D = some (.lst ((List.range n).map f)), ⟨_, Nat.zero_le _, rfl, same_upd newD, upd_same⟩, ?_⟩
  rintro n m H ⟨le, rfl, sm, hl⟩
  have q : SqT K H a xs := SqT.of (sm _ _ at1)
  by_cases e : n = xs.length
  · subst e
    exact .inl ⟨⟨xs, q, Nat.le_refl _⟩, fin H sm hl⟩
  · have lt : n < xs.length := by omega
    have g : xs[n]? = some xs[n] := List.getElem?_eq_getElem lt
    refine .inr ⟨⟨xs, _, q, g⟩, fun H' => Same H1 H' ∧ H' D = some (.lst ((List.range (n + 1)).map f)), fun H' ⟨s2, h2⟩ => ⟨_, by omega, lt, rfl, s2, h2⟩, ?_⟩
    rintro y H' ⟨T, x, rfl, nT, rfl, u⟩
    have sT := same_upd (o := .tup [.int (n : Nat), x]) nT
    refine ⟨T, _, rfl, SqT.of upd_same, rfl, _, _, rfl, _, _, rfl, rfl, same n x, ?_⟩
    refine turn n x (u xs q) _ _ (sm.trans sT) fun H5 s5 => ?_
    refine ⟨_, s5 _ _ (sT _ _ hl), ?_, fun b o eb => ?_, ?_⟩
    · rw [List.length_map, List.length_range]; omega
    · rw [upd_ne (ne_of_none eb newD)]; exact s5 _ _ (sT _ _ (sm _ _ eb))
    · rw [upd_same, List.range_succ, List.map_append]; rfl
end My

namespace My
/-! ### bounds as whole numbers -/
def sumB (a b : Int) : Int := if a = 1000000 ∨ b = 1000000 then 1000000 else 2 * (a / 2 + b / 2) + a % 2 * (b % 2)
theorem par2 (a : Int) : a % 2 = 0 ∨ a % 2 = 1 := by omega
theorem sumB_far {a b : Int} (h : a = 1000000 ∨ b = 1000000) : sumB a b = 1000000 := if_pos h
theorem sumB_fin {a b : Int} (h : a ≠ 1000000) (k : b ≠ 1000000) : (a % 2 = 1 ∧ b % 2 = 1 ∧ sumB a b = a + b - 1) ∨ (a % 2 = 0 ∧ b % 2 = 1 ∧ sumB a b = a + b - 1) ∨ (a % 2 = 1 ∧ b % 2 = 0 ∧ sumB a b = a + b - 1) ∨ (a % 2 = 0 ∧ b % 2 = 0 ∧ sumB a b = a + b) := by
  unfold sumB
  rw [if_neg (by rintro (z | z) <;> contradiction)]
  rcases par2 a with x | x <;> rcases par2 b with y | y <;> rw [x, y] <;> omega
def Ok (B a : Int) : Prop := a = 1000000 ∨ (-B ≤ a ∧ a ≤ B)
theorem Ok.mono {B C a : Int} (h : Ok B a) (l : B ≤ C) : Ok C a := by
  unfold Ok at h ⊢; omega
theorem sumB_ok {B a b : Int} (h : Ok B a) (k : Ok B b) : Ok (2 * B + 1) (sumB a b) := by
  by_cases z : a = 1000000 ∨ b = 1000000
  · exact .inl (sumB_far z)
  · have := sumB_fin (fun y => z (.inl y)) (fun y => z (.inr y))
    unfold Ok at h k ⊢; omega
theorem sumB_mono {a b a' b' : Int} (ha : Ok 400000 a) (hb : Ok 400000 b) (ha' : Ok 400000 a') (hb' : Ok 400000 b') (l : a ≤ a') (k : b ≤ b') : sumB a b ≤ sumB a' b' := by
  unfold Ok at ha hb ha' hb'
  by_cases z' : a' = 1000000 ∨ b' = 1000000
  · rw [sumB_far z']
    by_cases z : a = 1000000 ∨ b = 1000000
    · rw [sumB_far z]; exact Int.le_refl _
    · have := sumB_fin (fun y => z (.inl y)) (fun y => z (.inr y))
      omega
  · have h1 := sumB_fin (fun y => z' (.inl y)) (fun y => z' (.inr y))
    have h2 := sumB_fin (a := a) (b := b) (fun y => z' (by omega)) (fun y => z' (by omega))
    omega
theorem sumB_comm (a b : Int) : sumB a b = sumB b a := by
  by_cases z : a = 1000000 ∨ b = 1000000
  · rw [sumB_far z, sumB_far z.symm]
  · unfold sumB
    rw [if_neg z, if_neg (fun y => z y.symm), Int.mul_comm (a % 2), Int.add_comm (a / 2)]
theorem sumB_assoc {a b c : Int} (ha : Ok 200000 a) (hb : Ok 200000 b) (hc : Ok 200000 c) : sumB (sumB a b) c = sumB a (sumB b c) := by
  unfold Ok at ha hb hc
  by_cases za : a = 1000000
  · rw [sumB_far (a := a) (b := b) (.inl za), sumB_far (a := a) (.inl za), sumB_far (.inl rfl)]
  by_cases zb : b = 1000000
  · rw [sumB_far (a := a) (b := b) (.inr zb), sumB_far (a := b) (b := c) (.inl zb), sumB_far (.inl rfl), sumB_far (.inr rfl)]
  by_cases zc : c = 1000000
  · rw [sumB_far (a := b) (b := c) (.inr zc), sumB_far (b := c) (.inr zc), sumB_far (.inr rfl)]
  have h1 := sumB_fin za zb
  have h2 := sumB_fin zb zc
  have h3 := sumB_fin (a := sumB a b) (b := c) (by omega) zc
  have h4 := sumB_fin (a := a) (b := sumB b c) za (by omega)
  omega
theorem sumB_one (x : Int) : sumB 1 x = x := by
  by_cases z : x = 1000000
  · rw [sumB_far (.inr z), z]
  · have := sumB_fin (a := 1) (b := x) (by decide) z
    omega
theorem sumB_one' (x : Int) : sumB x 1 = x := by rw [sumB_comm, sumB_one]
/-- at most the sum, where neither is far -/
theorem sumB_le {a b : Int} (h : a ≠ 1000000) (k : b ≠ 1000000) : sumB a b ≤ a + b ∧ a + b - 1 ≤ sumB a b := by
  have := sumB_fin h k
  omega
theorem sumB_ne {B a b : Int} (hB : B ≤ 400000) (ha : Ok B a) (hb : Ok B b) (h : sumB a b ≠ 1000000) : a ≠ 1000000 ∧ b ≠ 1000000 :=
  ⟨fun z => h (sumB_far (.inl z)), fun z => h (sumB_far (.inr z))⟩
theorem sumB_nf {B a b : Int} (hB : B ≤ 400000) (ha : Ok B a) (hb : Ok B b) (h : a ≠ 1000000) (k : b ≠ 1000000) : sumB a b ≠ 1000000 := by
  have := sumB_fin h k
  unfold Ok at ha hb
  omega
/-! ### a square of bounds, as a function of places -/
theorem ix_inj {n r c r' c' : Nat} (h : c < n) (h' : c' < n) (e : r * n + c = r' * n + c') : r = r' ∧ c = c' := by
  have hn : 0 < n := by omega
  have e1 : (r * n + c) / n = r := by rw [Nat.mul_comm, Nat.mul_add_div hn, Nat.div_eq_of_lt h, Nat.add_zero]
  have e2 : (r' * n + c') / n = r' := by rw [Nat.mul_comm, Nat.mul_add_div hn, Nat.div_eq_of_lt h', Nat.add_zero]
  have : r = r' := by rw [← e1, ← e2, e]
  subst this
  exact ⟨rfl, by omega⟩
theorem ix_lt {n r c : Nat} (h : r < n) (k : c < n) : r * n + c < n * n := by
  have : (r + 1) * n ≤ n * n := Nat.mul_le_mul_right n h
  rw [Nat.add_mul, Nat.one_mul] at this
  omega
def upF (f : Nat → Int) (i : Nat) (v : Int) : Nat → Int := fun j => if j = i then v else f j
theorem upF_same {f : Nat → Int} {i : Nat} {v : Int} : upF f i v i = v := if_pos rfl
theorem upF_ne {f : Nat → Int} {i j : Nat} {v : Int} (h : j ≠ i) : upF f i v j = f j := if_neg h
def stepF (n m r c : Nat) (f : Nat → Int) : Nat → Int := upF f (r * n + c) (min (f (r * n + c)) (sumB (f (r * n + m)) (f (m * n + c))))
def colF (n m r : Nat) : Nat → (Nat → Int) → Nat → Int
  | 0, f => f
  | j + 1, f => stepF n m r j (colF n m r j f)
def rowF (n m : Nat) : Nat → (Nat → Int) → Nat → Int
  | 0, f => f
  | i + 1, f => colF n m i n (rowF n m i f)
def fwF (n : Nat) : Nat → (Nat → Int) → Nat → Int
  | 0, f => f
  | k + 1, f => rowF n k n (fwF n k f)
theorem stepF_le {n m r c : Nat} {f : Nat → Int} (i : Nat) : stepF n m r c f i ≤ f i := by
  unfold stepF
  by_cases h : i = r * n + c
  · rw [h, upF_same]; exact Int.min_le_left _ _
  · rw [upF_ne h]; exact Int.le_refl _
theorem colF_le {n m r : Nat} {f : Nat → Int} (i : Nat) : ∀ j, colF n m r j f i ≤ f i
  | 0 => Int.le_refl _
  | j + 1 => Int.le_trans (stepF_le i) (colF_le i j)
theorem rowF_le {n m : Nat} {f : Nat → Int} (i : Nat) : ∀ j, rowF n m j f i ≤ f i
  | 0 => Int.le_refl _
  | j + 1 => Int.le_trans (colF_le i n) (rowF_le i j)
theorem fwF_le {n : Nat} {f : Nat → Int} (i : Nat) : ∀ k, fwF n k f i ≤ f i
  | 0 => Int.le_refl _
  | k + 1 => Int.le_trans (rowF_le i n) (fwF_le i k)
theorem fwF_dec {n : Nat} {f : Nat → Int} (i k : Nat) : ∀ d, fwF n (k + d) f i ≤ fwF n k f i
  | 0 => Int.le_refl _
  | d + 1 => Int.le_trans (rowF_le i n) (fwF_dec i k d)
/-- what a pass with one middle leaves, the middle's own bound being no less than 1 -/
def passF (n m : Nat) (f : Nat → Int) (r c : Nat) : Int := min (f (r * n + c)) (sumB (f (r * n + m)) (f (m * n + c)))
section
variable {n m : Nat} {f : Nat → Int} (hm : m < n) (ok : ∀ r c, r < n → c < n → Ok 200000 (f (r * n + c))) (dg : 1 ≤ f (m * n + m))
include hm ok dg
theorem pass_col {r : Nat} (hr : r < n) : passF n m f r m = f (r * n + m) := by
  unfold passF
  have o1 := (ok r m hr hm).mono (show (200000 : Int) ≤ 400000 by decide)
  have := sumB_mono o1 (show Ok 400000 1 from .inr (by decide)) o1 ((ok m m hm hm).mono (by decide)) (Int.le_refl _) dg
  rw [sumB_one'] at this
  exact Int.min_eq_left this
theorem pass_row {c : Nat} (hc : c < n) : passF n m f m c = f (m * n + c) := by
  unfold passF
  have o1 := (ok m c hm hc).mono (show (200000 : Int) ≤ 400000 by decide)
  have := sumB_mono (show Ok 400000 1 from .inr (by decide)) o1 ((ok m m hm hm).mono (by decide)) o1 dg (Int.le_refl _)
  rw [sumB_one] at this
  exact Int.min_eq_left this
theorem pass_step (i j : Nat) (hi : i < n) (hj : j < n) (g : Nat → Int) (h : ∀ r c, r < n → c < n → g (r * n + c) = if r < i ∨ (r = i ∧ c < j) then passF n m f r c else f (r * n + c)) :
    ∀ r c, r < n → c < n → stepF n m i j g (r * n + c) = if r < i ∨ (r = i ∧ c < j + 1) then passF n m f r c else f (r * n + c) := by
  intro r c hr hc
  unfold stepF
  by_cases e : r = i ∧ c = j
  · obtain ⟨rfl, rfl⟩ := e
    rw [upF_same, if_pos (.inr ⟨rfl, by omega⟩), h r c hr hc, if_neg (by omega)]
    have e1 : g (r * n + m) = f (r * n + m) := by
      rw [h r m hr hm]
      split
      · exact pass_col hm ok dg hr
      · rfl
    have e2 : g (m * n + c) = f (m * n + c) := by
      rw [h m c hm hc]
      split
      · exact pass_row hm ok dg hc
      · rfl
    rw [e1, e2]; rfl
  · rw [upF_ne (fun z => e (ix_inj hc hj z)), h r c hr hc]
    by_cases y : r < i ∨ (r = i ∧ c < j)
    · rw [if_pos y, if_pos (by omega)]
    · rw [if_neg y, if_neg (by omega)]
theorem pass_cols (i : Nat) (hi : i < n) (g : Nat → Int) (h : ∀ r c, r < n → c < n → g (r * n + c) = if r < i ∨ (r = i ∧ c < 0) then passF n m f r c else f (r * n + c)) : ∀ j, j ≤ n →
    ∀ r c, r < n → c < n → colF n m i j g (r * n + c) = if r < i ∨ (r = i ∧ c < j) then passF n m f r c else f (r * n + c)
  | 0, _ => h
  | j + 1, hj => pass_step hm ok dg i j hi hj _ (pass_cols i hi g h j (by omega))
theorem pass_rows : ∀ i, i ≤ n → ∀ r c, r < n → c < n → rowF n m i f (r * n + c) = if r < i ∨ (r = i ∧ c < 0) then passF n m f r c else f (r * n + c)
  | 0, _, r, c, _, _ => by rw [if_neg (by omega)]; rfl
  | i + 1, hi, r, c, hr, hc => by
    have := pass_cols hm ok dg i hi _ (pass_rows i (by omega)) n (Nat.le_refl _) r c hr hc
    show colF n m i n (rowF n m i f) (r * n + c) = _
    rw [this]
    by_cases y : r < i ∨ (r = i ∧ c < n)
    · rw [if_pos y, if_pos (by omega)]
    · rw [if_neg y, if_neg (by omega)]
theorem pass_all {r c : Nat} (hr : r < n) (hc : c < n) : rowF n m n f (r * n + c) = passF n m f r c := by
  rw [pass_rows hm ok dg n (Nat.le_refl _) r c hr hc, if_pos (.inl hr)]
end
/-! ### the square closed -/
def Tri (n m : Nat) (f : Nat → Int) : Prop := ∀ i j, i < n → j < n → f (i * n + j) ≤ sumB (f (i * n + m)) (f (m * n + j))
theorem tri_pass {n k : Nat} {f g : Nat → Int} (hk : k < n) (ok : ∀ r c, r < n → c < n → Ok 50000 (f (r * n + c))) (dg : 1 ≤ f (k * n + k)) (T : ∀ m, m < k → Tri n m f)
    (hg : ∀ r c, r < n → c < n → g (r * n + c) = passF n k f r c) : ∀ m, m < k + 1 → Tri n m g := by
  intro m hm i j hi hj
  have ok2 : ∀ r c, r < n → c < n → Ok 200000 (f (r * n + c)) := fun r c a b => (ok r c a b).mono (by decide)
  have ok4 : ∀ r c, r < n → c < n → Ok 400000 (f (r * n + c)) := fun r c a b => (ok r c a b).mono (by decide)
  have s1 : ∀ r m c, r < n → m < n → c < n → Ok 100001 (sumB (f (r * n + m)) (f (m * n + c))) := fun r m c a b d => sumB_ok (ok r m a b) (ok m c b d)
  have le1 : g (i * n + j) ≤ f (i * n + j) := by rw [hg i j hi hj]; exact Int.min_le_left _ _
  have le2 : g (i * n + j) ≤ sumB (f (i * n + k)) (f (k * n + j)) := by rw [hg i j hi hj]; exact Int.min_le_right _ _
  by_cases e : m = k
  · subst e
    rw [hg i m hi hk, hg m j hk hj, pass_col hk ok2 dg hi, pass_row hk ok2 dg hj]
    exact le2
  · have hmn : m < n := by omega
    have Tm := T m (by omega)
    have oik := ok i k hi hk
    have okj := ok k j hk hj
    rcases (show g (i * n + m) = f (i * n + m) ∨ g (i * n + m) = sumB (f (i * n + k)) (f (k * n + m)) by rw [hg i m hi hmn]; unfold passF; omega) with a | a <;>
    rcases (show g (m * n + j) = f (m * n + j) ∨ g (m * n + j) = sumB (f (m * n + k)) (f (k * n + j)) by rw [hg m j hmn hj]; unfold passF; omega) with b | b <;> rw [a, b]
    · exact Int.le_trans le1 (Tm i j hi hj)
    · rw [← sumB_assoc (ok2 i m hi hmn) (ok2 m k hmn hk) (ok2 k j hk hj)]
      exact Int.le_trans le2 (sumB_mono (ok4 i k hi hk) (ok4 k j hk hj) ((s1 i m k hi hmn hk).mono (by decide)) (ok4 k j hk hj) (Tm i k hi hk) (Int.le_refl _))
    · rw [sumB_assoc (ok2 i k hi hk) (ok2 k m hk hmn) (ok2 m j hmn hj)]
      exact Int.le_trans le2 (sumB_mono (ok4 i k hi hk) (ok4 k j hk hj) (ok4 i k hi hk) ((s1 k m j hk hmn hj).mono (by decide)) (Int.le_refl _) (Tm k j hk hj))
    · have o1 := s1 k m k hk hmn hk
      rw [sumB_assoc (ok2 i k hi hk) (ok2 k m hk hmn) ((s1 m k j hmn hk hj).mono (by decide)), ← sumB_assoc (ok2 k m hk hmn) (ok2 m k hmn hk) (ok2 k j hk hj)]
      have h1 : f (k * n + j) ≤ sumB (sumB (f (k * n + m)) (f (m * n + k))) (f (k * n + j)) := by
        have := sumB_mono (show Ok 400000 1 from .inr (by decide)) (ok4 k j hk hj) (o1.mono (by decide)) (ok4 k j hk hj) (Int.le_trans dg (Tm k k hk hk)) (Int.le_refl _)
        rwa [sumB_one] at this
      have o2 : Ok 400000 (sumB (sumB (f (k * n + m)) (f (m * n + k))) (f (k * n + j))) := (sumB_ok o1 (okj.mono (by decide))).mono (by decide)
      exact Int.le_trans le2 (sumB_mono (ok4 i k hi hk) (ok4 k j hk hj) (ok4 i k hi hk) o2 (Int.le_refl _) h1)
def okN : Nat → Int → Int
  | 0, B => B
  | k + 1, B => 2 * okN k B + 1
theorem okN_le {B : Int} (h0 : 0 ≤ B) (h : B ≤ 5000) : ∀ k, k ≤ 3 → okN k B ≤ 50000 ∧ 0 ≤ okN k B := by
  intro k hk
  have : k = 0 ∨ k = 1 ∨ k = 2 ∨ k = 3 := by omega
  rcases this with rfl | rfl | rfl | rfl <;> simp only [okN] <;> omega
/-- the square's stages, the diagonal at the end no less than 1 -/
theorem fw_stage {n : Nat} {f : Nat → Int} {B : Int} (hn : n ≤ 4) (h0 : 0 ≤ B) (hB : B ≤ 5000) (ok : ∀ r c, r < n → c < n → Ok B (f (r * n + c))) (dg : ∀ i, i < n → 1 ≤ fwF n n f (i * n + i)) :
    ∀ k, k ≤ n → (∀ r c, r < n → c < n → Ok (okN k B) (fwF n k f (r * n + c))) ∧ (∀ m, m < k → Tri n m (fwF n k f)) ∧ (∀ m, m < k → ∀ r c, r < n → c < n → fwF n (m + 1) f (r * n + c) = passF n m (fwF n m f) r c)
  | 0, _ => ⟨ok, fun m h => absurd h (by omega), fun m h => absurd h (by omega)⟩
  | k + 1, hk => by
    obtain ⟨i1, i2, i3⟩ := fw_stage hn h0 hB ok dg k (by omega)
    obtain ⟨b1, b2⟩ := okN_le h0 hB k (by omega)
    have dk : 1 ≤ fwF n k f (k * n + k) := by
      have := fwF_dec (n := n) (f := f) (k * n + k) k (n - k)
      rw [show k + (n - k) = n by omega] at this
      exact Int.le_trans (dg k (by omega)) this
    have ok2 : ∀ r c, r < n → c < n → Ok 50000 (fwF n k f (r * n + c)) := fun r c a b => (i1 r c a b).mono b1
    have P : ∀ r c, r < n → c < n → fwF n (k + 1) f (r * n + c) = passF n k (fwF n k f) r c := fun r c hr hc => pass_all (by omega) (fun r c a b => (ok2 r c a b).mono (by decide)) dk hr hc
    refine ⟨fun r c hr hc => ?_, tri_pass (by omega) ok2 dk i2 P, fun m hm => ?_⟩
    · rw [P r c hr hc]
      have a1 := i1 r c hr hc
      have a2 := sumB_ok (i1 r k hr (by omega)) (i1 k c (by omega) hc)
      unfold passF
      rcases (show min (fwF n k f (r * n + c)) (sumB (fwF n k f (r * n + k)) (fwF n k f (k * n + c))) = fwF n k f (r * n + c) ∨ min (fwF n k f (r * n + c)) (sumB (fwF n k f (r * n + k)) (fwF n k f (k * n + c))) = sumB (fwF n k f (r * n + k)) (fwF n k f (k * n + c)) by omega) with e | e <;> rw [e]
      · refine a1.mono ?_
        show okN k B ≤ 2 * okN k B + 1
        omega
      · exact a2
    · by_cases e : m = k
      · subst e; exact P
      · exact i3 m (by omega)
/-- closed already: nothing changes -/
theorem fw_id {n : Nat} {f : Nat → Int} (T : ∀ m, m < n → Tri n m f) : ∀ k, k ≤ n → fwF n k f = f := by
  have st : ∀ m r c, m < n → r < n → c < n → stepF n m r c f = f := fun m r c hm hr hc => by
    funext i
    unfold stepF
    by_cases e : i = r * n + c
    · rw [e, upF_same, Int.min_eq_left (T m hm r c hr hc)]
    · rw [upF_ne e]
  have co : ∀ m r, m < n → r < n → ∀ j, j ≤ n → colF n m r j f = f := fun m r hm hr j => by
    induction j with
    | zero => intro _; rfl
    | succ j ih =>
      intro hj
      show stepF n m r j (colF n m r j f) = f
      rw [ih (by omega), st m r j hm hr hj]
  have ro : ∀ m, m < n → ∀ i, i ≤ n → rowF n m i f = f := fun m hm i => by
    induction i with
    | zero => intro _; rfl
    | succ i ih =>
      intro hi
      show colF n m i n (rowF n m i f) = f
      rw [ih (by omega), co m i hm hi n (Nat.le_refl _)]
  intro k
  induction k with
  | zero => intro _; rfl
  | succ k ih =>
    intro hk
    show rowF n k n (fwF n k f) = f
    rw [ih (by omega), ro k hk n (Nat.le_refl _)]
end My

namespace My
/-! ### what values keep a bound; numbers are sixths -/
def satB (e d : Int) : Bool := decide (e = 1000000) || (decide (d < 6 * (e / 2)) || (decide (d = 6 * (e / 2)) && decide (e % 2 = 1)))
theorem sat_iff {e d : Int} : satB e d = true ↔ e = 1000000 ∨ d < 6 * (e / 2) ∨ (d = 6 * (e / 2) ∧ e % 2 = 1) := by
  unfold satB; simp
theorem sat_far (d : Int) : satB 1000000 d = true := sat_iff.mpr (.inl rfl)
theorem sat_mono {e e' d : Int} (l : e ≤ e') (t : e' ≤ 1000000) (h : satB e d = true) : satB e' d = true := by
  rw [sat_iff] at h ⊢; omega
theorem sat_sum {a b d d' : Int} (h : satB a d = true) (k : satB b d' = true) : satB (sumB a b) (d + d') = true := by
  by_cases z : a = 1000000 ∨ b = 1000000
  · rw [sumB_far z]; exact sat_far _
  · have := sumB_fin (fun y => z (.inl y)) (fun y => z (.inr y))
    rw [sat_iff] at h k ⊢
    have z1 : a ≠ 1000000 := fun y => z (.inl y)
    have z2 : b ≠ 1000000 := fun y => z (.inr y)
    omega
theorem sat_min {a b d : Int} (ha : a ≤ 1000000) (hb : b ≤ 1000000) : satB (min a b) d = true ↔ satB a d = true ∧ satB b d = true := by
  constructor
  · intro h
    exact ⟨sat_mono (Int.min_le_left _ _) ha h, sat_mono (Int.min_le_right _ _) hb h⟩
  · rintro ⟨h, k⟩
    rcases (show min a b = a ∨ min a b = b by omega) with e | e <;> rw [e] <;> assumption
def InZ (n : Nat) (f : Nat → Int) (x : Nat → Int) : Prop := ∀ r c, r < n → c < n → satB (f (r * n + c)) (x r - x c) = true
section
variable {n : Nat} {f : Nat → Int} {x : Nat → Int}
theorem inZ_step {m r c : Nat} (hm : m < n) (hr : r < n) (hc : c < n) (h : InZ n f x) : InZ n (stepF n m r c f) x := by
  intro r' c' hr' hc'
  unfold stepF
  by_cases e : r' = r ∧ c' = c
  · obtain ⟨rfl, rfl⟩ := e
    rw [upF_same]
    rcases (show min (f (r' * n + c')) (sumB (f (r' * n + m)) (f (m * n + c'))) = f (r' * n + c') ∨ min (f (r' * n + c')) (sumB (f (r' * n + m)) (f (m * n + c'))) = sumB (f (r' * n + m)) (f (m * n + c')) by omega) with e | e <;> rw [e]
    · exact h _ _ hr' hc'
    · have := sat_sum (h r' m hr' hm) (h m c' hm hc')
      rwa [show x r' - x m + (x m - x c') = x r' - x c' by omega] at this
  · rw [upF_ne (fun z => e (ix_inj hc' hc z))]
    exact h _ _ hr' hc'
theorem inZ_fw (h : InZ n f x) : ∀ k, k ≤ n → InZ n (fwF n k f) x := by
  have co : ∀ m r (g : Nat → Int), m < n → r < n → InZ n g x → ∀ j, j ≤ n → InZ n (colF n m r j g) x := fun m r g hm hr hg j => by
    induction j with
    | zero => intro _; exact hg
    | succ j ih => intro hj; exact inZ_step hm hr hj (ih (by omega))
  have ro : ∀ m (g : Nat → Int), m < n → InZ n g x → ∀ i, i ≤ n → InZ n (rowF n m i g) x := fun m g hm hg i => by
    induction i with
    | zero => intro _; exact hg
    | succ i ih => intro hi; exact co m i _ hm hi (ih (by omega)) n (Nat.le_refl _)
  intro k
  induction k with
  | zero => intro _; exact h
  | succ k ih => intro hk; exact ro k _ hk (ih (by omega)) n (Nat.le_refl _)
theorem inZ_fw_iff (t : ∀ r c, r < n → c < n → f (r * n + c) ≤ 1000000) : InZ n (fwF n n f) x ↔ InZ n f x :=
  ⟨fun h r c hr hc => sat_mono (fwF_le _ n) (t r c hr hc) (h r c hr hc), fun h => inZ_fw h n (Nat.le_refl _)⟩
/-- a diagonal below 1: no values are in it -/
theorem inZ_diag {i : Nat} (hi : i < n) (h : f (i * n + i) < 1) : ¬ InZ n f x := fun z => by
  have := sat_iff.mp (z i i hi hi)
  omega
end
/-! ### zones -/
structure Zn (n : Nat) (B : Int) (f : Nat → Int) : Prop where
  two : 2 ≤ n
  four : n ≤ 4
  pos : 1 ≤ B
  lim : B ≤ 100000
  diag : ∀ i, i < n → f (i * n + i) = 1
  row : ∀ j, j < n → -B ≤ f (0 * n + j) ∧ f (0 * n + j) ≤ 1
  top : ∀ i j, i < n → j < n → f (i * n + j) = 1000000 ∨ f (i * n + j) ≤ B
  tri : ∀ m, m < n → Tri n m f
section
variable {n : Nat} {B : Int} {f : Nat → Int}
theorem Zn.low (z : Zn n B f) {i j : Nat} (hi : i < n) (hj : j < n) : f (i * n + j) = 1000000 ∨ f (0 * n + j) - f (0 * n + i) ≤ f (i * n + j) := by
  by_cases e : f (i * n + j) = 1000000
  · exact .inl e
  · have t := z.tri i hi 0 j (by have := z.two; omega) hj
    have r := (z.row i hi).2
    have := sumB_le (a := f (0 * n + i)) (b := f (i * n + j)) (by omega) e
    exact .inr (by omega)
theorem Zn.ok (z : Zn n B f) {i j : Nat} (hi : i < n) (hj : j < n) : Ok (B + 1) (f (i * n + j)) := by
  have a := z.low hi hj
  have b := z.top i j hi hj
  have c := z.row i hi
  have d := z.row j hj
  unfold Ok; omega
theorem Zn.le (z : Zn n B f) {i j : Nat} (hi : i < n) (hj : j < n) : f (i * n + j) ≤ 1000000 := by
  have := z.top i j hi hj
  have := z.lim
  omega
theorem Zn.mono (z : Zn n B f) {C : Int} (l : B ≤ C) (u : C ≤ 100000) : Zn n C f :=
  ⟨z.two, z.four, Int.le_trans z.pos l, u, z.diag, fun j hj => ⟨by have := (z.row j hj).1; omega, (z.row j hj).2⟩, fun i j hi hj => by have := z.top i j hi hj; omega, z.tri⟩
/-- as time passes -/
def laterF (n : Nat) (f : Nat → Int) : Nat → Int := fun i => if i % n = 0 ∧ 0 < i then 1000000 else f i
theorem later_at {i j : Nat} (hn : 2 ≤ n) (hj : j < n) : laterF n f (i * n + j) = if j = 0 ∧ 0 < i then 1000000 else f (i * n + j) := by
  unfold laterF
  have e : (i * n + j) % n = j := by rw [Nat.mul_comm, Nat.mul_add_mod, Nat.mod_eq_of_lt hj]
  rw [e]
  by_cases a : j = 0
  · subst a
    by_cases b : 0 < i
    · rw [if_pos ⟨rfl, by have := Nat.mul_pos b (show 0 < n by omega); omega⟩, if_pos ⟨rfl, b⟩]
    · rw [if_neg (by rintro ⟨_, z⟩; have : i = 0 := by omega
                     subst this; simp at z), if_neg (by omega)]
  · rw [if_neg (by omega), if_neg (by omega)]
theorem Zn.later (z : Zn n B f) : Zn n B (laterF n f) := by
  have two := z.two
  refine ⟨z.two, z.four, z.pos, z.lim, fun i hi => ?_, fun j hj => ?_, fun i j hi hj => ?_, fun m hm i j hi hj => ?_⟩
  · rw [later_at two hi, if_neg (by omega)]; exact z.diag i hi
  · rw [later_at two hj, if_neg (by omega)]; exact z.row j hj
  · rw [later_at two hj]
    split
    · exact .inl rfl
    · exact z.top i j hi hj
  · have t := z.tri m hm i j hi hj
    rw [later_at two hj, later_at two hm, later_at two hj]
    by_cases a : m = 0 ∧ 0 < i
    · rw [if_pos a, sumB_far (.inl rfl)]
      split
      · exact Int.le_refl _
      · exact z.le hi hj
    · rw [if_neg a]
      by_cases b : j = 0 ∧ 0 < m
      · rw [if_pos b, sumB_far (.inr rfl)]
        split
        · exact Int.le_refl _
        · exact z.le hi hj
      · rw [if_neg b, if_neg (by omega)]
        exact t
end
end My

namespace My
/-! ### a clock set back -/
def led (at_ i : Nat) : Nat := if i = at_ then 0 else i
def setF (n at_ : Nat) (f : Nat → Int) : Nat → Int := fun i => f (led at_ (i / n) * n + led at_ (i % n))
theorem ix_div {n i j : Nat} (hj : j < n) : (i * n + j) / n = i ∧ (i * n + j) % n = j :=
  ⟨by rw [Nat.mul_comm, Nat.mul_add_div (by omega), Nat.div_eq_of_lt hj, Nat.add_zero], by rw [Nat.mul_comm, Nat.mul_add_mod, Nat.mod_eq_of_lt hj]⟩
theorem set_at {n at_ i j : Nat} {f : Nat → Int} (hj : j < n) : setF n at_ f (i * n + j) = f (led at_ i * n + led at_ j) := by
  unfold setF
  rw [(ix_div hj).1, (ix_div hj).2]
theorem led_lt {n a i : Nat} (hn : 2 ≤ n) (h : i < n) : led a i < n := by unfold led; split <;> omega
theorem Zn.set {n : Nat} {B : Int} {f : Nat → Int} (z : Zn n B f) (a : Nat) (ha : 0 < a) : Zn n B (setF n a f) := by
  have two := z.two
  refine ⟨z.two, z.four, z.pos, z.lim, fun i hi => ?_, fun j hj => ?_, fun i j hi hj => ?_, fun m hm i j hi hj => ?_⟩
  · rw [set_at hi]; exact z.diag _ (led_lt two hi)
  · rw [set_at hj, show led a 0 = 0 by unfold led; rw [if_neg (by omega)]]; exact z.row _ (led_lt two hj)
  · rw [set_at hj]; exact z.top _ _ (led_lt two hi) (led_lt two hj)
  · rw [set_at hj, set_at hm, set_at hj]; exact z.tri _ (led_lt two hm) _ _ (led_lt two hi) (led_lt two hj)
/-! ### a guard -/
structure GRow where
  k : Nat
  up : Bool
  r : Bool
  num : Int
def GRow.rho (g : GRow) : Int := if g.r then 1 else 0
def GRow.okFor (g : GRow) (n : Nat) : Prop := g.k + 1 < n ∧ 0 ≤ g.num ∧ g.num ≤ 12
def guard1 (n : Nat) (f : Nat → Int) (g : GRow) : Nat → Int :=
  if g.up then upF f ((1 + g.k) * n + 0) (min (f ((1 + g.k) * n + 0)) (2 * g.num + g.rho)) else upF f (0 * n + (1 + g.k)) (min (f (0 * n + (1 + g.k))) (2 * (0 - g.num) + g.rho))
def GRow.keeps (g : GRow) (v : Int) : Bool := if g.r && decide (v = 6 * g.num) then true else if g.up then decide (v < 6 * g.num) else decide (v > 6 * g.num)
structure GB (n : Nat) (f g : Nat → Int) : Prop where
  le : ∀ i, g i ≤ f i
  ent : ∀ i j, i < n → j < n → g (i * n + j) = f (i * n + j) ∨ (j = 0 ∧ 0 < i ∧ 0 ≤ g (i * n + j) ∧ g (i * n + j) ≤ 25) ∨ (i = 0 ∧ 0 < j ∧ -24 ≤ g (i * n + j) ∧ g (i * n + j) ≤ 1)
theorem GB.refl (n : Nat) (f : Nat → Int) : GB n f f := ⟨fun _ => Int.le_refl _, fun _ _ _ _ => .inl rfl⟩
theorem rho_01 (g : GRow) : g.rho = 0 ∨ g.rho = 1 := by unfold GRow.rho; split <;> simp
theorem GB.guard {n : Nat} {f g : Nat → Int} (h : GB n f g) {w : GRow} (ok : w.okFor n) : GB n f (guard1 n g w) := by
  obtain ⟨o1, o2, o3⟩ := ok
  have rr := rho_01 w
  unfold guard1
  split
  · refine ⟨fun i => ?_, fun i j hi hj => ?_⟩
    · by_cases e : i = (1 + w.k) * n + 0
      · rw [e, upF_same]; exact Int.le_trans (Int.min_le_left _ _) (h.le _)
      · rw [upF_ne e]; exact h.le _
    · by_cases e : i * n + j = (1 + w.k) * n + 0
      · obtain ⟨rfl, rfl⟩ := ix_inj hj (by omega) e
        rw [upF_same]
        have := h.ent (1 + w.k) 0 hi hj
        rcases (show min (g ((1 + w.k) * n + 0)) (2 * w.num + w.rho) = g ((1 + w.k) * n + 0) ∨ min (g ((1 + w.k) * n + 0)) (2 * w.num + w.rho) = 2 * w.num + w.rho by omega) with z | z <;> rw [z]
        · exact this
        · exact .inr (.inl ⟨rfl, by omega, by omega, by omega⟩)
      · rw [upF_ne e]; exact h.ent i j hi hj
  · refine ⟨fun i => ?_, fun i j hi hj => ?_⟩
    · by_cases e : i = 0 * n + (1 + w.k)
      · rw [e, upF_same]; exact Int.le_trans (Int.min_le_left _ _) (h.le _)
      · rw [upF_ne e]; exact h.le _
    · by_cases e : i * n + j = 0 * n + (1 + w.k)
      · obtain ⟨rfl, rfl⟩ := ix_inj hj (by omega) e
        rw [upF_same]
        have := h.ent 0 (1 + w.k) hi hj
        rcases (show min (g (0 * n + (1 + w.k))) (2 * (0 - w.num) + w.rho) = g (0 * n + (1 + w.k)) ∨ min (g (0 * n + (1 + w.k))) (2 * (0 - w.num) + w.rho) = 2 * (0 - w.num) + w.rho by omega) with z | z <;> rw [z]
        · exact this
        · exact .inr (.inr ⟨rfl, by omega, by omega, by omega⟩)
      · rw [upF_ne e]; exact h.ent i j hi hj
/-- the values that keep a guarded square -/
theorem inZ_guard {n : Nat} {g : Nat → Int} {x : Nat → Int} {w : GRow} (ok : w.okFor n) (x0 : x 0 = 0) (t : ∀ r c, r < n → c < n → g (r * n + c) ≤ 1000000) : InZ n (guard1 n g w) x ↔ InZ n g x ∧ w.keeps (x (1 + w.k)) = true := by
  obtain ⟨o1, o2, o3⟩ := ok
  have kk : ∀ v, w.keeps v = true ↔ (w.r = true ∧ v = 6 * w.num) ∨ (w.up = true ∧ v < 6 * w.num) ∨ (w.up = false ∧ v > 6 * w.num) := fun v => by
    unfold GRow.keeps
    cases w.r <;> cases w.up <;> simp <;> omega
  have at_ : ∀ (a b : Nat) (v : Int), a < n → b < n → v ≤ 1000000 → (satB v (x a - x b) = true ↔ w.keeps (x (1 + w.k)) = true) → (InZ n (upF g (a * n + b) (min (g (a * n + b)) v)) x ↔ InZ n g x ∧ w.keeps (x (1 + w.k)) = true) := by
    intro a b v ha hb hv hs
    constructor
    · intro h
      have h1 := h a b ha hb
      rw [upF_same, sat_min (t _ _ ha hb) hv] at h1
      refine ⟨fun r c hr hc => ?_, hs.mp h1.2⟩
      by_cases e : r * n + c = a * n + b
      · obtain ⟨rfl, rfl⟩ := ix_inj hc hb e
        exact h1.1
      · have := h r c hr hc
        rwa [upF_ne e] at this
    · rintro ⟨h, k⟩ r c hr hc
      by_cases e : r * n + c = a * n + b
      · obtain ⟨rfl, rfl⟩ := ix_inj hc hb e
        rw [upF_same, sat_min (t _ _ hr hc) hv]
        exact ⟨h _ _ hr hc, hs.mpr k⟩
      · rw [upF_ne e]; exact h _ _ hr hc
  have rr : w.rho = if w.r = true then 1 else 0 := rfl
  unfold guard1
  cases hu : w.up with
  | true =>
    rw [if_pos rfl]
    refine at_ (1 + w.k) 0 _ (by omega) (by omega) (by have := rho_01 w; omega) ?_
    rw [sat_iff, kk, x0, hu, rr]
    cases w.r <;> simp <;> omega
  | false =>
    rw [if_neg (by simp)]
    refine at_ 0 (1 + w.k) _ (by omega) (by omega) (by have := rho_01 w; omega) ?_
    rw [sat_iff, kk, x0, hu, rr]
    cases w.r <;> simp <;> omega
/-! ### a guarded zone, tight -/
def slk : Nat → Int
  | 0 => 30
  | k + 1 => 2 * slk k + 1
theorem slk_le : ∀ k, k ≤ 4 → slk k ≤ 495 ∧ 30 ≤ slk k := by
  intro k hk
  have : k = 0 ∨ k = 1 ∨ k = 2 ∨ k = 3 ∨ k = 4 := by omega
  rcases this with rfl | rfl | rfl | rfl | rfl <;> decide
theorem kept_zn {n : Nat} {B : Int} {f g : Nat → Int} (z : Zn n B f) (hB : B ≤ 4900) (fl : ∀ i, 0 < i → i < n → f (i * n + 0) = 1000000) (G : GB n f g) (dg : ∀ i, i < n → 1 ≤ fwF n n g (i * n + i)) : Zn n (B + 600) (fwF n n g) := by
  have two := z.two
  have four := z.four
  have pos := z.pos
  have h0 : 0 < n := by omega
  have okg : ∀ r c, r < n → c < n → Ok (B + 30) (g (r * n + c)) := fun r c hr hc => by
    have a := z.ok hr hc
    have b := G.ent r c hr hc
    unfold Ok at a ⊢; omega
  obtain ⟨_, T, PS⟩ := fw_stage (B := B + 30) four (by omega) (by omega) okg dg n (Nat.le_refl _)
  have le : ∀ i, fwF n n g i ≤ g i := fun i => fwF_le i n
  have row1 : ∀ j, j < n → fwF n n g (0 * n + j) ≤ 1 := fun j hj => Int.le_trans (le _) (Int.le_trans (G.le _) (z.row j hj).2)
  -- an upper guard leaves room
  have upr : ∀ i, 0 < i → i < n → g (i * n + 0) ≤ 25 → 1 - f (0 * n + i) ≤ g (i * n + 0) := fun i hi0 hi h => by
    have d := dg i hi
    have t := T 0 h0 i i hi hi
    have a := le (i * n + 0)
    have b := Int.le_trans (le (0 * n + i)) (G.le (0 * n + i))
    have c := row1 i hi
    have := sumB_le (a := fwF n n g (i * n + 0)) (b := fwF n n g (0 * n + i)) (by omega) (by omega)
    omega
  have low : ∀ k, k ≤ n → ∀ i j, i < n → j < n → f (0 * n + j) - f (0 * n + i) - slk k ≤ fwF n k g (i * n + j) := by
    intro k
    induction k with
    | zero =>
      intro _ i j hi hj
      show f (0 * n + j) - f (0 * n + i) - 30 ≤ g (i * n + j)
      have ri := z.row i hi
      have rj := z.row j hj
      have d0 := z.diag 0 h0
      rcases G.ent i j hi hj with e | ⟨rfl, hi0, e1, e2⟩ | ⟨rfl, hj0, e1, e2⟩
      · have := z.low hi hj
        rw [e]; omega
      · have := upr i hi0 hi e2
        omega
      · omega
    | succ k ih =>
      intro hk i j hi hj
      have I := ih (by omega)
      have s := slk_le k (by omega)
      rw [PS k (by omega) i j hi hj]
      show f (0 * n + j) - f (0 * n + i) - (2 * slk k + 1) ≤ _
      have ri := z.row i hi
      have rj := z.row j hj
      unfold passF
      rcases (show min (fwF n k g (i * n + j)) (sumB (fwF n k g (i * n + k)) (fwF n k g (k * n + j))) = fwF n k g (i * n + j) ∨ min (fwF n k g (i * n + j)) (sumB (fwF n k g (i * n + k)) (fwF n k g (k * n + j))) = sumB (fwF n k g (i * n + k)) (fwF n k g (k * n + j)) by omega) with e | e <;> rw [e]
      · have := I i j hi hj
        omega
      · have a := I i k hi (by omega)
        have b := I k j (by omega) hj
        by_cases y : fwF n k g (i * n + k) = 1000000 ∨ fwF n k g (k * n + j) = 1000000
        · rw [sumB_far y]; omega
        · have := sumB_le (a := fwF n k g (i * n + k)) (b := fwF n k g (k * n + j)) (fun q => y (.inl q)) (fun q => y (.inr q))
          omega
  -- what is not far
  have nf : ∀ i m j, i < n → m < n → j < n → f (i * n + m) ≠ 1000000 → f (m * n + j) ≠ 1000000 → f (i * n + j) ≠ 1000000 := fun i m j hi hm hj a b e => by
    have t := z.tri m hm i j hi hj
    have := sumB_le a b
    have o1 := z.ok hi hm
    have o2 := z.ok hm hj
    unfold Ok at o1 o2
    omega
  have reach : ∀ k, k ≤ n → ∀ i j, i < n → j < n → fwF n k g (i * n + j) ≠ 1000000 → f (i * n + j) ≠ 1000000 ∨ ∃ l, l < n ∧ f (i * n + l) ≠ 1000000 ∧ g (l * n + 0) ≠ 1000000 := by
    intro k
    induction k with
    | zero =>
      intro _ i j hi hj h
      have h2 : g (i * n + j) ≠ 1000000 := h
      rcases G.ent i j hi hj with e | ⟨rfl, hi0, e1, e2⟩ | ⟨rfl, hj0, e1, e2⟩
      · exact .inl (by rw [← e]; exact h2)
      · exact .inr ⟨i, hi, by rw [z.diag i hi]; decide, h2⟩
      · exact .inl (by have := (z.row j hj).2; omega)
    | succ k ih =>
      intro hk i j hi hj h
      have I := ih (by omega)
      rw [PS k (by omega) i j hi hj] at h
      unfold passF at h
      rcases (show min (fwF n k g (i * n + j)) (sumB (fwF n k g (i * n + k)) (fwF n k g (k * n + j))) = fwF n k g (i * n + j) ∨ min (fwF n k g (i * n + j)) (sumB (fwF n k g (i * n + k)) (fwF n k g (k * n + j))) = sumB (fwF n k g (i * n + k)) (fwF n k g (k * n + j)) by omega) with e | e <;> rw [e] at h
      · exact I i j hi hj h
      · rcases I i k hi (by omega) (fun q => h (sumB_far (.inl q))) with a | a
        · rcases I k j (by omega) hj (fun q => h (sumB_far (.inr q))) with b | ⟨l, hl, b, c⟩
          · exact .inl (nf i k j hi (by omega) hj a b)
          · exact .inr ⟨l, hl, nf i k l hi (by omega) hl a b, c⟩
        · exact .inr a
  refine ⟨two, four, by omega, by omega, fun i hi => ?_, fun j hj => ⟨?_, row1 j hj⟩, fun i j hi hj => ?_, T⟩
  · have a := Int.le_trans (le (i * n + i)) (G.le (i * n + i))
    rw [z.diag i hi] at a
    have := dg i hi
    omega
  · have a := low n (Nat.le_refl _) 0 j h0 hj
    have b := slk_le n four
    have c := z.row j hj
    have d := z.diag 0 h0
    omega
  · by_cases e : fwF n n g (i * n + j) = 1000000
    · exact .inl e
    · refine .inr ?_
      have lej := Int.le_trans (le (i * n + j)) (G.le (i * n + j))
      rcases reach n (Nat.le_refl _) i j hi hj e with a | ⟨l, hl, a, b⟩
      · have := z.top i j hi hj
        omega
      · have c := z.top i l hi hl
        have lel := Int.le_trans (le (i * n + l)) (G.le (i * n + l))
        have g0 : g (l * n + 0) ≤ 25 := by
          rcases G.ent l 0 hl h0 with q | ⟨_, _, _, q⟩ | ⟨_, q, _⟩
          · by_cases l0 : l = 0
            · subst l0
              rw [q, z.diag 0 h0]; decide
            · rw [q, fl l (by omega) hl] at b; exact absurd rfl b
          · exact q
          · omega
        have le0 := le (l * n + 0)
        have t1 := T l hl i 0 hi h0
        have t2 := T 0 h0 i j hi hj
        have r1 := row1 j hj
        have s1 := sumB_le (a := fwF n n g (i * n + l)) (b := fwF n n g (l * n + 0)) (by omega) (by omega)
        have s2 := sumB_le (a := fwF n n g (i * n + 0)) (b := fwF n n g (0 * n + j)) (by omega) (by omega)
        omega
end My

namespace My
open PySem PySem.Spec PyProof.Rows L2
/-! ### the text -/
def topS (i : Nat) : Stmt := PySem.Challenge.pw_holdsfailsopen_k26_whole_zones_by_values.main.body.getD i (.Pass ⟨0, 0, 0, 0⟩)
abbrev s_is_integer : Stmt := topS 8
abbrev s_is_between : Stmt := topS 9
abbrev s_common : Stmt := topS 10
abbrev s_is_fraction : Stmt := topS 11
abbrev s_bound_of : Stmt := topS 22
abbrev s_sum_of_bounds : Stmt := topS 23
abbrev s_side_of : Stmt := topS 24
abbrev s_tight : Stmt := topS 25
abbrev s_begin_zone : Stmt := topS 26
abbrev s_passed : Stmt := topS 27
abbrev s_guarded : Stmt := topS 28
abbrev s_set_back : Stmt := topS 29
abbrev s_is_zone_of : Stmt := topS 30
abbrev s_is_zone : Stmt := topS 31
abbrev s_check_zone : Stmt := topS 32
abbrev s_has_values : Stmt := topS 33
abbrev s_first_zone : Stmt := topS 34
abbrev s_later_zone : Stmt := topS 35
abbrev s_are_bounds : Stmt := topS 36
abbrev s_zone_with : Stmt := topS 37
abbrev s_zone_set : Stmt := topS 38
abbrev s_is_in_zone : Stmt := topS 39
abbrev s__law_pot : Stmt := topS 41
abbrev s__law_take : Stmt := topS 42
abbrev s__law_of : Stmt := topS 43
abbrev s__law_cells : Stmt := topS 44
abbrev s__law_odd : Stmt := topS 45
abbrev s__law_bent : Stmt := topS 46
abbrev s__law_less : Stmt := topS 47
abbrev s__law_side : Stmt := topS 48
abbrev s__law_in : Stmt := topS 49
abbrev s__law_sum : Stmt := topS 50
abbrev s__law_tight : Stmt := topS 51
abbrev s__law_kept : Stmt := topS 52
abbrev s__law_later : Stmt := topS 53
abbrev s__law_set : Stmt := topS 54
abbrev s__law_guard_of : Stmt := topS 55
abbrev s__law_drawn_zone : Stmt := topS 56
abbrev s__law_values : Stmt := topS 57
abbrev s__law_sixths : Stmt := topS 58
abbrev s__law_is_zone : Stmt := topS 59
abbrev s__law_is_later : Stmt := topS 60
abbrev s__law_is_step_right : Stmt := topS 61
abbrev s__law_keeps : Stmt := topS 62
abbrev s__law_right : Stmt := topS 63
abbrev s_law : Stmt := topS 64
theorem sc_is_integer : FnScope ["value"] ["value"] (defScope s_is_integer) := ⟨rfl, rfl, rfl, by decide +kernel, rfl, by decide +kernel, by decide +kernel⟩
theorem sc_is_between : FnScope ["value", "low", "high"] ["value", "low", "high"] (defScope s_is_between) := ⟨rfl, rfl, rfl, by decide +kernel, rfl, by decide +kernel, by decide +kernel⟩
theorem sc_common : FnScope ["one", "other"] ["one", "other"] (defScope s_common) := ⟨rfl, rfl, rfl, by decide +kernel, rfl, by decide +kernel, by decide +kernel⟩
theorem sc_is_fraction : FnScope ["value"] ["value"] (defScope s_is_fraction) := ⟨rfl, rfl, rfl, by decide +kernel, rfl, by decide +kernel, by decide +kernel⟩
theorem sc_bound_of : FnScope ["number", "is_reached"] ["number", "is_reached"] (defScope s_bound_of) := ⟨rfl, rfl, rfl, by decide +kernel, rfl, by decide +kernel, by decide +kernel⟩
theorem sc_sum_of_bounds : FnScope ["one", "other"] ["one", "other"] (defScope s_sum_of_bounds) := ⟨rfl, rfl, rfl, by decide +kernel, rfl, by decide +kernel, by decide +kernel⟩
theorem sc_side_of : FnScope ["zone", "found"] ["zone"] (defScope s_side_of) := ⟨rfl, rfl, rfl, by decide +kernel, rfl, by decide +kernel, by decide +kernel⟩
theorem sc_tight : FnScope ["bounds", "size", "middle", "row", "column", "by"] ["bounds", "size"] (defScope s_tight) := ⟨rfl, rfl, rfl, by decide +kernel, rfl, by decide +kernel, by decide +kernel⟩
theorem sc_begin_zone : FnScope ["many"] ["many"] (defScope s_begin_zone) := ⟨rfl, rfl, rfl, by decide +kernel, rfl, by decide +kernel, by decide +kernel⟩
theorem sc_passed : FnScope ["zone", "size", "found", "row"] ["zone"] (defScope s_passed) := ⟨rfl, rfl, rfl, by decide +kernel, rfl, by decide +kernel, by decide +kernel⟩
theorem sc_guarded : FnScope ["zone", "clocks", "guard", "size", "found", "clock", "compare", "number", "at", "is_reached", "place", "bound"] ["zone", "clocks", "guard"] (defScope s_guarded) := ⟨rfl, rfl, rfl, by decide +kernel, rfl, by decide +kernel, by decide +kernel⟩
theorem sc_set_back : FnScope ["zone", "clocks", "resets", "size", "found", "clock", "at", "other"] ["zone", "clocks", "resets"] (defScope s_set_back) := ⟨rfl, rfl, rfl, by decide +kernel, rfl, by decide +kernel, by decide +kernel⟩
theorem sc_is_zone_of : FnScope ["many", "value", "size", "bound", "column", "at"] ["many", "value"] (defScope s_is_zone_of) := ⟨rfl, rfl, rfl, by decide +kernel, rfl, by decide +kernel, by decide +kernel⟩
theorem sc_is_zone : FnScope ["value", "many"] ["value"] (defScope s_is_zone) := ⟨rfl, rfl, rfl, by decide +kernel, rfl, by decide +kernel, by decide +kernel⟩
theorem sc_check_zone : FnScope ["zone"] ["zone"] (defScope s_check_zone) := ⟨rfl, rfl, rfl, by decide +kernel, rfl, by decide +kernel, by decide +kernel⟩
theorem sc_has_values : FnScope ["zone", "values", "size", "every", "row", "column", "bound", "top", "low", "less", "under", "by", "most"] ["zone", "values"] (defScope s_has_values) := ⟨rfl, rfl, rfl, by decide +kernel, rfl, by decide +kernel, by decide +kernel⟩
theorem sc_first_zone : FnScope ["many"] ["many"] (defScope s_first_zone) := ⟨rfl, rfl, rfl, by decide +kernel, rfl, by decide +kernel, by decide +kernel⟩
theorem sc_later_zone : FnScope ["zone"] ["zone"] (defScope s_later_zone) := ⟨rfl, rfl, rfl, by decide +kernel, rfl, by decide +kernel, by decide +kernel⟩
theorem sc_are_bounds : FnScope ["many", "value", "row"] ["many", "value"] (defScope s_are_bounds) := ⟨rfl, rfl, rfl, by decide +kernel, rfl, by decide +kernel, by decide +kernel⟩
theorem sc_zone_with : FnScope ["zone", "guard", "many", "found", "bound"] ["zone", "guard"] (defScope s_zone_with) := ⟨rfl, rfl, rfl, by decide +kernel, rfl, by decide +kernel, by decide +kernel⟩
theorem sc_zone_set : FnScope ["zone", "places", "many", "place"] ["zone", "places"] (defScope s_zone_set) := ⟨rfl, rfl, rfl, by decide +kernel, rfl, by decide +kernel, by decide +kernel⟩
theorem sc_is_in_zone : FnScope ["zone", "values", "one"] ["zone", "values"] (defScope s_is_in_zone) := ⟨rfl, rfl, rfl, by decide +kernel, rfl, by decide +kernel, by decide +kernel⟩
theorem sc__law_pot : FnScope ["script", "place", "cell", "own", "small"] ["script", "place"] (defScope s__law_pot) := ⟨rfl, rfl, rfl, by decide +kernel, rfl, by decide +kernel, by decide +kernel⟩
theorem sc__law_take : FnScope ["pot", "upto", "digit", "prime", "blend"] ["pot", "upto"] (defScope s__law_take) := ⟨rfl, rfl, rfl, by decide +kernel, rfl, by decide +kernel, by decide +kernel⟩
theorem sc__law_of : FnScope ["pot", "some"] ["pot", "some"] (defScope s__law_of) := ⟨rfl, rfl, rfl, by decide +kernel, rfl, by decide +kernel, by decide +kernel⟩
theorem sc__law_cells : FnScope ["script", "most"] ["script", "most"] (defScope s__law_cells) := ⟨rfl, rfl, rfl, by decide +kernel, rfl, by decide +kernel, by decide +kernel⟩
theorem sc__law_odd : FnScope ["pot", "some", "value", "lap"] ["pot"] (defScope s__law_odd) := ⟨rfl, rfl, rfl, by decide +kernel, rfl, by decide +kernel, by decide +kernel⟩
theorem sc__law_bent : FnScope ["pot", "value", "some", "at", "way"] ["pot", "value"] (defScope s__law_bent) := ⟨rfl, rfl, rfl, by decide +kernel, rfl, by decide +kernel, by decide +kernel⟩
theorem sc__law_less : FnScope ["zone", "row", "column", "by", "bound", "most"] ["zone", "row", "column", "by"] (defScope s__law_less) := ⟨rfl, rfl, rfl, by decide +kernel, rfl, by decide +kernel, by decide +kernel⟩
theorem sc__law_side : FnScope ["zone"] ["zone"] (defScope s__law_side) := ⟨rfl, rfl, rfl, by decide +kernel, rfl, by decide +kernel, by decide +kernel⟩
theorem sc__law_in : FnScope ["zone", "values", "every", "side", "row", "column"] ["zone", "values"] (defScope s__law_in) := ⟨rfl, rfl, rfl, by decide +kernel, rfl, by decide +kernel, by decide +kernel⟩
theorem sc__law_sum : FnScope ["one", "other"] ["one", "other"] (defScope s__law_sum) := ⟨rfl, rfl, rfl, by decide +kernel, rfl, by decide +kernel, by decide +kernel⟩
theorem sc__law_tight : FnScope ["bounds", "side", "found", "middle", "row", "column", "by", "at"] ["bounds", "side"] (defScope s__law_tight) := ⟨rfl, rfl, rfl, by decide +kernel, rfl, by decide +kernel, by decide +kernel⟩
theorem sc__law_kept : FnScope ["zone", "guard", "side", "found", "clock", "compare", "number", "at", "weak"] ["zone", "guard"] (defScope s__law_kept) := ⟨rfl, rfl, rfl, by decide +kernel, rfl, by decide +kernel, by decide +kernel⟩
theorem sc__law_later : FnScope ["zone", "side", "at", "bound"] ["zone"] (defScope s__law_later) := ⟨rfl, rfl, rfl, by decide +kernel, rfl, by decide +kernel, by decide +kernel⟩
theorem sc__law_set : FnScope ["zone", "clock", "side", "at", "led", "one", "place"] ["zone", "clock"] (defScope s__law_set) := ⟨rfl, rfl, rfl, by decide +kernel, rfl, by decide +kernel, by decide +kernel⟩
theorem sc__law_guard_of : FnScope ["pot", "many", "words", "rows", "lap"] ["pot", "many"] (defScope s__law_guard_of) := ⟨rfl, rfl, rfl, by decide +kernel, rfl, by decide +kernel, by decide +kernel⟩
theorem sc__law_drawn_zone : FnScope ["pot", "many", "laps", "zone", "lap", "way", "kept"] ["pot", "many", "laps"] (defScope s__law_drawn_zone) := ⟨rfl, rfl, rfl, by decide +kernel, rfl, by decide +kernel, by decide +kernel⟩
theorem sc__law_values : FnScope ["pot", "many", "values", "at", "value"] ["pot", "many"] (defScope s__law_values) := ⟨rfl, rfl, rfl, by decide +kernel, rfl, by decide +kernel, by decide +kernel⟩
theorem sc__law_sixths : FnScope ["number", "one", "other"] ["number"] (defScope s__law_sixths) := ⟨rfl, rfl, rfl, by decide +kernel, rfl, by decide +kernel, by decide +kernel⟩
theorem sc__law_is_zone : FnScope ["value", "side", "bound", "at"] ["value"] (defScope s__law_is_zone) := ⟨rfl, rfl, rfl, by decide +kernel, rfl, by decide +kernel, by decide +kernel⟩
theorem sc__law_is_later : FnScope ["zone", "values", "side", "low", "high", "one", "other", "top", "bottom", "most"] ["zone", "values"] (defScope s__law_is_later) := ⟨rfl, rfl, rfl, by decide +kernel, rfl, by decide +kernel, by decide +kernel⟩
theorem sc__law_is_step_right : FnScope ["pot", "zone", "many", "later", "clock", "guard", "kept", "put", "places", "due", "place", "lap", "values", "told", "fine", "one", "word", "number"] ["pot", "zone", "many"] (defScope s__law_is_step_right) := ⟨rfl, rfl, rfl, by decide +kernel, rfl, by decide +kernel, by decide +kernel⟩
theorem sc__law_keeps : FnScope ["value", "word", "number"] ["value", "word", "number"] (defScope s__law_keeps) := ⟨rfl, rfl, rfl, by decide +kernel, rfl, by decide +kernel, by decide +kernel⟩
theorem sc__law_right : FnScope ["pot", "many", "zone", "some", "lap", "value"] ["pot"] (defScope s__law_right) := ⟨rfl, rfl, rfl, by decide +kernel, rfl, by decide +kernel, by decide +kernel⟩
theorem sc_law : FnScope ["script", "place", "pot", "lap"] ["script"] (defScope s_law) := ⟨rfl, rfl, rfl, by decide +kernel, rfl, by decide +kernel, by decide +kernel⟩
def comparesW : List Str := ["<", "<=", ">", ">="]
def upperW : List Str := ["<", "<="]
/-- what the top has written -/
structure Txt (K : PySem.W.Frag) (mg : Str → Option Value) (A : Nat → Addr) (D : Nat → FuncData) : Prop where
  F_is_integer : Fun K "is_integer" "is_integer" s_is_integer (A 0) (D 0)
  g_is_integer : mg "is_integer" = some (.ref (A 0))
  b_is_integer : Binds K (D 0) ["value"] []
  F_is_between : Fun K "is_between" "is_between" s_is_between (A 1) (D 1)
  g_is_between : mg "is_between" = some (.ref (A 1))
  b_is_between : Binds K (D 1) ["value", "low", "high"] []
  F_common : Fun K "common" "common" s_common (A 2) (D 2)
  g_common : mg "common" = some (.ref (A 2))
  b_common : Binds K (D 2) ["one", "other"] []
  F_is_fraction : Fun K "is_fraction" "is_fraction" s_is_fraction (A 3) (D 3)
  g_is_fraction : mg "is_fraction" = some (.ref (A 3))
  b_is_fraction : Binds K (D 3) ["value"] []
  F_bound_of : Fun K "bound_of" "bound_of" s_bound_of (A 4) (D 4)
  g_bound_of : mg "bound_of" = some (.ref (A 4))
  b_bound_of : Binds K (D 4) ["number", "is_reached"] []
  F_sum_of_bounds : Fun K "sum_of_bounds" "sum_of_bounds" s_sum_of_bounds (A 5) (D 5)
  g_sum_of_bounds : mg "sum_of_bounds" = some (.ref (A 5))
  b_sum_of_bounds : Binds K (D 5) ["one", "other"] []
  F_side_of : Fun K "side_of" "side_of" s_side_of (A 6) (D 6)
  g_side_of : mg "side_of" = some (.ref (A 6))
  b_side_of : Binds K (D 6) ["zone"] []
  F_tight : Fun K "tight" "tight" s_tight (A 7) (D 7)
  g_tight : mg "tight" = some (.ref (A 7))
  b_tight : Binds K (D 7) ["bounds", "size"] []
  F_begin_zone : Fun K "begin_zone" "begin_zone" s_begin_zone (A 8) (D 8)
  g_begin_zone : mg "begin_zone" = some (.ref (A 8))
  b_begin_zone : Binds K (D 8) ["many"] []
  F_passed : Fun K "passed" "passed" s_passed (A 9) (D 9)
  g_passed : mg "passed" = some (.ref (A 9))
  b_passed : Binds K (D 9) ["zone"] []
  F_guarded : Fun K "guarded" "guarded" s_guarded (A 10) (D 10)
  g_guarded : mg "guarded" = some (.ref (A 10))
  b_guarded : Binds K (D 10) ["zone", "clocks", "guard"] []
  F_set_back : Fun K "set_back" "set_back" s_set_back (A 11) (D 11)
  g_set_back : mg "set_back" = some (.ref (A 11))
  b_set_back : Binds K (D 11) ["zone", "clocks", "resets"] []
  F_is_zone_of : Fun K "is_zone_of" "is_zone_of" s_is_zone_of (A 12) (D 12)
  g_is_zone_of : mg "is_zone_of" = some (.ref (A 12))
  b_is_zone_of : Binds K (D 12) ["many", "value"] []
  F_is_zone : Fun K "is_zone" "is_zone" s_is_zone (A 13) (D 13)
  g_is_zone : mg "is_zone" = some (.ref (A 13))
  b_is_zone : Binds K (D 13) ["value"] []
  kb_is_zone : KBinds K (D 13) ["value"] ["value"] (fun us ws => us ++ ws) (fun us zs => us ++ zs)
  F_check_zone : Fun K "check_zone" "check_zone" s_check_zone (A 14) (D 14)
  g_check_zone : mg "check_zone" = some (.ref (A 14))
  b_check_zone : Binds K (D 14) ["zone"] []
  F_has_values : Fun K "has_values" "has_values" s_has_values (A 15) (D 15)
  g_has_values : mg "has_values" = some (.ref (A 15))
  b_has_values : Binds K (D 15) ["zone", "values"] []
  F_first_zone : Fun K "first_zone" "first_zone" s_first_zone (A 16) (D 16)
  g_first_zone : mg "first_zone" = some (.ref (A 16))
  b_first_zone : Binds K (D 16) ["many"] []
  kb_first_zone : KBinds K (D 16) ["many"] ["many"] (fun us ws => us ++ ws) (fun us zs => us ++ zs)
  F_later_zone : Fun K "later_zone" "later_zone" s_later_zone (A 17) (D 17)
  g_later_zone : mg "later_zone" = some (.ref (A 17))
  b_later_zone : Binds K (D 17) ["zone"] []
  kb_later_zone : KBinds K (D 17) ["zone"] ["zone"] (fun us ws => us ++ ws) (fun us zs => us ++ zs)
  F_are_bounds : Fun K "are_bounds" "are_bounds" s_are_bounds (A 18) (D 18)
  g_are_bounds : mg "are_bounds" = some (.ref (A 18))
  b_are_bounds : Binds K (D 18) ["many", "value"] []
  F_zone_with : Fun K "zone_with" "zone_with" s_zone_with (A 19) (D 19)
  g_zone_with : mg "zone_with" = some (.ref (A 19))
  b_zone_with : Binds K (D 19) ["zone", "guard"] []
  kb_zone_with : KBinds K (D 19) ["zone", "guard"] ["zone", "guard"] kwO kwO
  F_zone_set : Fun K "zone_set" "zone_set" s_zone_set (A 20) (D 20)
  g_zone_set : mg "zone_set" = some (.ref (A 20))
  b_zone_set : Binds K (D 20) ["zone", "places"] []
  kb_zone_set : KBinds K (D 20) ["zone", "places"] ["zone", "places"] kwO kwO
  F_is_in_zone : Fun K "is_in_zone" "is_in_zone" s_is_in_zone (A 21) (D 21)
  g_is_in_zone : mg "is_in_zone" = some (.ref (A 21))
  b_is_in_zone : Binds K (D 21) ["zone", "values"] []
  kb_is_in_zone : KBinds K (D 21) ["zone", "values"] ["zone", "values"] kwO kwO
  F__law_pot : Fun K "_law_pot" "_law_pot" s__law_pot (A 22) (D 22)
  g__law_pot : mg "_law_pot" = some (.ref (A 22))
  b__law_pot : Binds K (D 22) ["script", "place"] []
  F__law_take : Fun K "_law_take" "_law_take" s__law_take (A 23) (D 23)
  g__law_take : mg "_law_take" = some (.ref (A 23))
  b__law_take : Binds K (D 23) ["pot", "upto"] []
  F__law_of : Fun K "_law_of" "_law_of" s__law_of (A 24) (D 24)
  g__law_of : mg "_law_of" = some (.ref (A 24))
  b__law_of : Binds K (D 24) ["pot", "some"] []
  F__law_cells : Fun K "_law_cells" "_law_cells" s__law_cells (A 25) (D 25)
  g__law_cells : mg "_law_cells" = some (.ref (A 25))
  b__law_cells : Binds K (D 25) ["script", "most"] []
  F__law_odd : Fun K "_law_odd" "_law_odd" s__law_odd (A 26) (D 26)
  g__law_odd : mg "_law_odd" = some (.ref (A 26))
  b__law_odd : Binds K (D 26) ["pot"] []
  F__law_bent : Fun K "_law_bent" "_law_bent" s__law_bent (A 27) (D 27)
  g__law_bent : mg "_law_bent" = some (.ref (A 27))
  b__law_bent : Binds K (D 27) ["pot", "value"] []
  F__law_less : Fun K "_law_less" "_law_less" s__law_less (A 28) (D 28)
  g__law_less : mg "_law_less" = some (.ref (A 28))
  b__law_less : Binds K (D 28) ["zone", "row", "column", "by"] []
  F__law_side : Fun K "_law_side" "_law_side" s__law_side (A 29) (D 29)
  g__law_side : mg "_law_side" = some (.ref (A 29))
  b__law_side : Binds K (D 29) ["zone"] []
  F__law_in : Fun K "_law_in" "_law_in" s__law_in (A 30) (D 30)
  g__law_in : mg "_law_in" = some (.ref (A 30))
  b__law_in : Binds K (D 30) ["zone", "values"] []
  F__law_sum : Fun K "_law_sum" "_law_sum" s__law_sum (A 31) (D 31)
  g__law_sum : mg "_law_sum" = some (.ref (A 31))
  b__law_sum : Binds K (D 31) ["one", "other"] []
  F__law_tight : Fun K "_law_tight" "_law_tight" s__law_tight (A 32) (D 32)
  g__law_tight : mg "_law_tight" = some (.ref (A 32))
  b__law_tight : Binds K (D 32) ["bounds", "side"] []
  F__law_kept : Fun K "_law_kept" "_law_kept" s__law_kept (A 33) (D 33)
  g__law_kept : mg "_law_kept" = some (.ref (A 33))
  b__law_kept : Binds K (D 33) ["zone", "guard"] []
  F__law_later : Fun K "_law_later" "_law_later" s__law_later (A 34) (D 34)
  g__law_later : mg "_law_later" = some (.ref (A 34))
  b__law_later : Binds K (D 34) ["zone"] []
  F__law_set : Fun K "_law_set" "_law_set" s__law_set (A 35) (D 35)
  g__law_set : mg "_law_set" = some (.ref (A 35))
  b__law_set : Binds K (D 35) ["zone", "clock"] []
  F__law_guard_of : Fun K "_law_guard_of" "_law_guard_of" s__law_guard_of (A 36) (D 36)
  g__law_guard_of : mg "_law_guard_of" = some (.ref (A 36))
  b__law_guard_of : Binds K (D 36) ["pot", "many"] []
  F__law_drawn_zone : Fun K "_law_drawn_zone" "_law_drawn_zone" s__law_drawn_zone (A 37) (D 37)
  g__law_drawn_zone : mg "_law_drawn_zone" = some (.ref (A 37))
  b__law_drawn_zone : Binds K (D 37) ["pot", "many", "laps"] []
  F__law_values : Fun K "_law_values" "_law_values" s__law_values (A 38) (D 38)
  g__law_values : mg "_law_values" = some (.ref (A 38))
  b__law_values : Binds K (D 38) ["pot", "many"] []
  F__law_sixths : Fun K "_law_sixths" "_law_sixths" s__law_sixths (A 39) (D 39)
  g__law_sixths : mg "_law_sixths" = some (.ref (A 39))
  b__law_sixths : Binds K (D 39) ["number"] []
  F__law_is_zone : Fun K "_law_is_zone" "_law_is_zone" s__law_is_zone (A 40) (D 40)
  g__law_is_zone : mg "_law_is_zone" = some (.ref (A 40))
  b__law_is_zone : Binds K (D 40) ["value"] []
  F__law_is_later : Fun K "_law_is_later" "_law_is_later" s__law_is_later (A 41) (D 41)
  g__law_is_later : mg "_law_is_later" = some (.ref (A 41))
  b__law_is_later : Binds K (D 41) ["zone", "values"] []
  F__law_is_step_right : Fun K "_law_is_step_right" "_law_is_step_right" s__law_is_step_right (A 42) (D 42)
  g__law_is_step_right : mg "_law_is_step_right" = some (.ref (A 42))
  b__law_is_step_right : Binds K (D 42) ["pot", "zone", "many"] []
  F__law_keeps : Fun K "_law_keeps" "_law_keeps" s__law_keeps (A 43) (D 43)
  g__law_keeps : mg "_law_keeps" = some (.ref (A 43))
  b__law_keeps : Binds K (D 43) ["value", "word", "number"] []
  F__law_right : Fun K "_law_right" "_law_right" s__law_right (A 44) (D 44)
  g__law_right : mg "_law_right" = some (.ref (A 44))
  b__law_right : Binds K (D 44) ["pot"] []
  F_law : Fun K "law" "law" s_law (A 45) (D 45)
  g_law : mg "law" = some (.ref (A 45))
  b_law : Binds K (D 45) ["script"] []
  n_len : mg "len" = none
  n_int : mg "int" = none
  n_bool : mg "bool" = none
  n_str : mg "str" = none
  n_tuple : mg "tuple" = none
  n_list : mg "list" = none
  n_abs : mg "abs" = none
  n_max : mg "max" = none
  n_min : mg "min" = none
  n_sum : mg "sum" = none
  n_all : mg "all" = none
  n_any : mg "any" = none
  n_isinstance : mg "isinstance" = none
  n_range : mg "range" = none
  n_repr : mg "repr" = none
  n_enumerate : mg "enumerate" = none
  c_MOST_CLOCKS : ∃ u, mg "MOST_CLOCKS" = some u ∧ RelV (.int 3) u
  c_MOST_MOMENT : ∃ u, mg "MOST_MOMENT" = some u ∧ RelV (.int 12) u
  c_FAR : ∃ u, mg "FAR" = some u ∧ RelV (.int 1000000) u
  c_MOST_BOUND : ∃ u, mg "MOST_BOUND" = some u ∧ RelV (.int 200000) u
  c_MOST_NUMBER : ∃ u, mg "MOST_NUMBER" = some u ∧ RelV (.int 100000) u
  c_REACHED : ∃ u, mg "REACHED" = some u ∧ RelV (.int 1) u
  c_NOUGHT : ∃ u, mg "NOUGHT" = some u ∧ RelV (.int 1) u
  c_COMPARES : ∃ u, mg "COMPARES" = some u ∧ RelV (.ref (A 100)) u
  c_UPPER : ∃ u, mg "UPPER" = some u ∧ RelV (.ref (A 101)) u
  t_COMPARES : ∀ H, SqT K H (A 100) (comparesW.map V.str)
  t_UPPER : ∀ H, SqT K H (A 101) (upperW.map V.str)
end My

namespace My
open PySem PySem.Spec PyProof.Rows L2
def primes : List V := [.int 2147483647, .int 2147483629, .int 2147483587, .int 2147483579, .int 2147483563]
theorem prime_at {i : Int} (h0 : 0 ≤ i) (h1 : i < 5) : ∃ pr : Int, atI primes i = some (.int pr) ∧ 0 < pr ∧ pr < 2 ^ 31 := by
  have c : i = 0 ∨ i = 1 ∨ i = 2 ∨ i = 3 ∨ i = 4 := by omega
  rcases c with rfl | rfl | rfl | rfl | rfl
  · exact ⟨2147483647, atI_nat (j := 0) rfl, by decide, by decide⟩
  · exact ⟨2147483629, atI_nat (j := 1) rfl, by decide, by decide⟩
  · exact ⟨2147483587, atI_nat (j := 2) rfl, by decide, by decide⟩
  · exact ⟨2147483579, atI_nat (j := 3) rfl, by decide, by decide⟩
  · exact ⟨2147483563, atI_nat (j := 4) rfl, by decide, by decide⟩
theorem cut_to1 (ns : List Int) : cutV (ns.map V.int) none (some 1) = (ns.take 1).map V.int := by
  unfold cutV
  cases ns with
  | nil => rfl
  | cons x r =>
    rw [HT.sIx_none, show HT.sIx ((x :: r).map V.int).length ((x :: r).map V.int).length (some 1) = min 1 ((x :: r).map V.int).length from HT.sIx_nat _ _ 1]
    rfl
theorem atI_some {xs : List V} {i : Int} (h0 : 0 ≤ i) (h1 : i < xs.length) : ∃ x, x ∈ xs ∧ atI xs i = some x := by
  obtain ⟨j, rfl⟩ : ∃ j : Nat, i = j := ⟨i.toNat, by omega⟩
  have hj : j < xs.length := by omega
  exact ⟨xs[j], List.getElem_mem hj, atI_nat (List.getElem?_eq_getElem hj)⟩
section
variable {P : Program} {w : World} {K : PySem.W.Frag} {mg : Str → Option Value} {base : Heap} {A : Nat → Addr} {D : Nat → FuncData}
theorem ok_take (T : Txt K mg A D) : FnG P w K mg base CX0 1 (A 23) (D 23) ["pot", "upto"] spTake := by
  refine def_ok0 T.F__law_take sc__law_take (fun vs H Q E h => ?_) (fun cdv Ar outer s H vs Q E hr hG h => ?_)
  · obtain ⟨p, u, n, rfl, _⟩ := h; rfl
  · obtain ⟨p, u, n, rfl, ⟨own, small, cnt, hp, h0, h1, h2, h3, h4, h5⟩, hn, hu, hu2, q⟩ := h
    refine ⟨_, (pss_cons (ps_if (pt_cmpR op_gt (pe_ix ix_list (pv 0) pe_int (fun _ _ => rfl)) pe_int (nomark _)) (pss_cons (ps_set (i := 2) sc__law_take.nd rfl (Or.inl rfl) (pe_op op_modN (pe_callTy call_int1 (by rfl) T.n_int (by decide +kernel) (pa_cons (pe_ix ix_list (pv 0) pe_int (fun _ _ => rfl)) pa_nil)) (pv 1)))
      (pss_cons (ps_asg (pe_op op_fdivW (pe_ix ix_list (pv 0) pe_int (fun _ _ => rfl)) (pv 1)) (pg_sub (pv 0) pe_int set_list))
      (pss_one (ps_ret (pv 2))))) pss_nil)
      (pss_cons (ps_asg (pe_op op_add (pe_ix ix_list (pv 0) pe_int (fun _ _ => rfl)) pe_int) (pg_sub (pv 0) pe_int set_list))
      (pss_cons (ps_set (i := 3) sc__law_take.nd rfl (Or.inl rfl) (pe_ix ix_list (pe_lst (pa_cons pe_int (pa_cons pe_int (pa_cons pe_int (pa_cons pe_int (pa_cons pe_int pa_nil)))))) (pe_op op_modN (pe_callTy call_int1 (by rfl) T.n_int (by decide +kernel) (pa_cons (pe_ix ix_list (pv 0) pe_int (fun _ _ => rfl)) pa_nil)) pe_int) (fun _ _ => rfl)))
      (pss_cons (ps_set (i := 4) sc__law_take.nd rfl (Or.inl rfl) (pe_op op_modN (pe_callTy call_int1 (by rfl) T.n_int (by decide +kernel) (pa_cons (pe_op op_powB (pe_callTy call_int1 (by rfl) T.n_int (by decide +kernel) (pa_cons (pe_op op_add (pe_op op_add (pe_ix ix_list (pv 0) pe_int (fun _ _ => rfl)) (pe_op op_mulW (pe_op op_mulW pe_int (pe_ix ix_list (pv 0) pe_int (fun _ _ => rfl))) (pe_ix ix_list (pv 0) pe_int (fun _ _ => rfl)))) pe_int) pa_nil)) pe_int) pa_nil)) (pv 3)))
      (pss_cons (ps_set (i := 4) sc__law_take.nd rfl (Or.inl rfl) (pe_op op_modN (pe_callTy call_int1 (by rfl) T.n_int (by decide +kernel) (pa_cons (pe_op op_mulW (pv 4) (pe_op op_add (pe_op op_modN (pe_callTy call_int1 (by rfl) T.n_int (by decide +kernel) (pa_cons (pv 4) pa_nil)) pe_int) (pe_op op_mulW pe_int (pe_ix ix_list (pv 0) pe_int (fun _ _ => rfl))))) pa_nil)) pe_int))
      (pss_one (ps_ret (pe_op op_modN (pe_callTy call_int1 (by rfl) T.n_int (by decide +kernel) (pa_cons (pe_op op_fdivW (pv 4) pe_int) pa_nil)) (pv 1))))))))), ?_⟩
    have at0 : ∀ x y z : V, atI [x, y, z] 0 = some x := fun _ _ _ => atI_nat (j := 0) rfl
    have at1 : ∀ x y z : V, atI [x, y, z] 1 = some y := fun _ _ _ => atI_nat (j := 1) rfl
    have at2 : ∀ x y z : V, atI [x, y, z] 2 = some z := fun _ _ _ => atI_nat (j := 2) rfl
    refine ⟨.ref p, rfl, p, _, 0, .int own, rfl, rfl, SqL.of hp, at0 _ _ _, own, 0, rfl, rfl, _, rfl, ite2 (fun e => ?_) (fun e => ?_)⟩
    · have e : 0 < own := of_decide_eq_true e
      refine ⟨.ref p, rfl, p, _, 0, .int own, rfl, rfl, SqL.of hp, at0 _ _ _, .inl ⟨own, rfl, .int u, rfl, own, u, rfl, rfl, (by show u ≠ 0; omega), ?_⟩⟩
      refine ⟨.ref p, rfl, p, _, 0, .int own, rfl, rfl, SqL.of hp, at0 _ _ _, .int u, rfl, own, u, rfl, rfl, wide_div hu (abs_lt (by omega) hu2) (by decide) (by decide), ?_⟩
      refine ⟨.ref p, rfl, p, _, 0, 0, rfl, rfl, hp, rfl, ?_⟩
      refine ⟨_, rfl, q _ _ (fmod_lo hu) (fmod_hi hu) But.upd ⟨own / u, small, cnt, upd_same, Int.ediv_nonneg h0 (by omega), ?_, h2, h3, h4, by omega⟩⟩
      exact Int.lt_of_le_of_lt (Int.ediv_le_self _ h0) h1
    · have hc : 0 ≤ cnt + 1 ∧ cnt + 1 < 2 ^ 61 := by omega
      have kc := abs_lt hc.1 hc.2
      have hp1 : (upd H p (.lst [.int own, .int small, .int (cnt + 1)])) p = some (.lst [.int own, .int small, .int (cnt + 1)]) := upd_same
      have b1 : But p H (upd H p (.lst [.int own, .int small, .int (cnt + 1)])) := But.upd
      refine ⟨.ref p, rfl, p, _, 2, .int cnt, rfl, rfl, SqL.of hp, at2 _ _ _, cnt, 1, rfl, rfl, .ref p, rfl, p, _, 2, 2, rfl, rfl, hp, rfl, ?_⟩
      refine ⟨(by show 5 ≤ sizeLine; decide), fun l hl => ?_⟩
      have npl : p ≠ l := ne_of_none hp1 hl
      have hp2 : (upd (upd H p (.lst [.int own, .int small, .int (cnt + 1)])) l (.lst primes)) p = some (.lst [.int own, .int small, .int (cnt + 1)]) := by rw [upd_ne npl]; exact hp1
      have b2 : But p H (upd (upd H p (.lst [.int own, .int small, .int (cnt + 1)])) l (.lst primes)) := b1.trans (But.of (same_upd hl))
      have r0 := fmod_lo (i := (cnt + 1)) (u := 5) (by decide)
      have r1 := fmod_hi (i := (cnt + 1)) (u := 5) (by decide)
      obtain ⟨pr, e1, e2, e3⟩ := prime_at r0 r1
      refine ⟨.ref p, rfl, p, _, 2, .int (cnt + 1), rfl, rfl, SqL.of hp2, at2 _ _ _, .inl ⟨(cnt + 1), rfl, (cnt + 1), 5, rfl, rfl, (show (5 : Int) ≠ 0 by decide), l, primes, (cnt + 1).fmod 5, .int pr, rfl, rfl, SqL.of upd_same, e1, ?_⟩⟩
      -- blend
      have m1 : CMulW 127187 (cnt + 1) := wide_mul (a := 20) (b := 61) (by decide) kc (by decide) (by decide) (by decide)
      have l1 : (127187 * (cnt + 1)).natAbs < 2 ^ (20 + 61) := wide_lt (by decide) kc
      have m2 : CMulW (127187 * (cnt + 1)) (cnt + 1) := wide_mul l1 kc (by decide) (by decide) (by decide)
      have l2 : (127187 * (cnt + 1) * (cnt + 1)).natAbs < 2 ^ (20 + 61 + 61) := wide_lt l1 kc
      have l3 : (small + 127187 * (cnt + 1) * (cnt + 1) + 7409).natAbs < 2 ^ 150 := by omega
      refine ⟨.ref p, rfl, p, _, 1, .int small, rfl, rfl, SqL.of hp2, at1 _ _ _, .ref p, rfl, p, _, 2, .int (cnt + 1), rfl, rfl, SqL.of hp2, at2 _ _ _, 127187, (cnt + 1), rfl, rfl, m1, ?_⟩
      refine ⟨.ref p, rfl, p, _, 2, .int (cnt + 1), rfl, rfl, SqL.of hp2, at2 _ _ _, _, (cnt + 1), rfl, rfl, m2, small, _, rfl, rfl, _, 7409, rfl, rfl, .inl ⟨_, rfl, _, 3, rfl, rfl, powB 150 l3 (by decide) (by decide) (by decide), .inl ⟨_, rfl, .int pr, rfl, _, pr, rfl, rfl, (by show pr ≠ 0; omega), ?_⟩⟩⟩
      have g0 := fmod_lo (i := (small + 127187 * (cnt + 1) * (cnt + 1) + 7409) ^ (3 : Int).toNat) e2
      have g1 := fmod_hi (i := (small + 127187 * (cnt + 1) * (cnt + 1) + 7409) ^ (3 : Int).toNat) e2
      obtain ⟨b, hb⟩ : ∃ b, b = ((small + 127187 * (cnt + 1) * (cnt + 1) + 7409) ^ (3 : Int).toNat).fmod pr := ⟨_, rfl⟩
      rw [← hb] at g0 g1
      have kb : b.natAbs < 2 ^ 31 := abs_lt g0 (by omega)
      have r2 := fmod_lo (i := b) (u := 34481) (by decide)
      have r3 := fmod_hi (i := b) (u := 34481) (by decide)
      have m3 : CMulW 4165 (cnt + 1) := wide_mul (a := 20) (b := 61) (by decide) kc (by decide) (by decide) (by decide)
      have l4 : (4165 * (cnt + 1)).natAbs < 2 ^ (20 + 61) := wide_lt (by decide) kc
      have l5 : (b.fmod 34481 + 4165 * (cnt + 1)).natAbs < 2 ^ 90 := by omega
      have m4 : CMulW b (b.fmod 34481 + 4165 * (cnt + 1)) := wide_mul kb l5 (by decide) (by decide) (by decide)
      refine ⟨_, rfl, _, rfl, .inl ⟨_, rfl, _, 34481, rfl, rfl, (show (34481 : Int) ≠ 0 by decide), .ref p, rfl, p, _, 2, .int (cnt + 1), rfl, rfl, SqL.of hp2, at2 _ _ _, 4165, (cnt + 1), rfl, rfl, m3, _, _, rfl, rfl, _, _, rfl, rfl, (by rw [← hb]; exact m4), .inl ⟨_, rfl, _, 2305843009213693907, rfl, rfl, (show (2305843009213693907 : Int) ≠ 0 by decide), ?_⟩⟩⟩
      refine ⟨_, rfl, _, 11071, rfl, rfl, wide_div (b := 14) (by decide) (by decide) (by decide) (by decide), .inl ⟨_, rfl, .int u, rfl, _, u, rfl, rfl, (by show u ≠ 0; omega), ?_⟩⟩
      exact q _ _ (fmod_lo hu) (fmod_hi hu) b2 ⟨own, small, (cnt + 1), hp2, h0, h1, h2, h3, by omega, by omega⟩
theorem ok_of (T : Txt K mg A D) : FnG P w K mg base CX0 2 (A 24) (D 24) ["pot", "some"] (spOf K) := by
  have G__law_take := ok_take (P := P) (w := w) (base := base) T
  refine def_ok0 T.F__law_of sc__law_of (fun vs H Q E h => ?_) (fun cdv Ar outer s H vs Q E hr hG h => ?_)
  · obtain ⟨p, u, xs, n, rfl, _⟩ := h; rfl
  · obtain ⟨p, a, xs, n, rfl, hp, hn, ne, hS, hne, hz, q⟩ := h
    refine ⟨_, (pss_one (ps_ret (pe_ix ix_list (pv 1) (pe_cg G__law_take (hr.mono (by first | decide | omega)) hG (by rfl) T.g__law_take T.F__law_take.kp T.b__law_take pass0 (pa_cons (pv 0) (pa_cons (pe_callB call_len_seq (by rfl) T.n_len PySem.boot_len (pa_cons (pv 1) pa_nil)) pa_nil))) (fun _ _ => rfl)))), ?_⟩
    have hl : 0 < xs.length := List.length_pos_iff.mpr hne
    refine ⟨.ref a, rfl, .ref p, rfl, .ref a, rfl, a, xs, rfl, .inl hS, ?_⟩
    refine ⟨p, xs.length, n, rfl, hp, hn, by omega, by omega, fun i H' h0 h1 b hp' => ?_⟩
    obtain ⟨x, hx, e⟩ := atI_some h0 h1
    exact ⟨a, xs, i, x, rfl, rfl, b.seqL ne hS, e, q x H' hx b hp'⟩
theorem ok_cells (T : Txt K mg A D) : FnG P w K mg base CX0 1 (A 25) (D 25) ["script", "most"] (spCells K) := by
  refine def_ok0 T.F__law_cells sc__law_cells (fun vs H Q E h => ?_) (fun cdv Ar outer s H vs Q E hr hG h => ?_)
  · obtain ⟨a, ns, m, rfl, _⟩ := h; rfl
  · obtain ⟨a, ns, m, rfl, hS, hl, h0, h1, q⟩ := h
    refine ⟨_, (pss_one (ps_ret (pe_listRg rfl (by rfl) T.n_list (prg_1 (by rfl) T.n_range (pe_callB (call_max2 rfl) (by rfl) T.n_max (by decide +kernel) (pa_cons pe_int (pa_cons (pe_callB (call_min2 rfl) (by rfl) T.n_min (by decide +kernel) (pa_cons (pv 1) (pa_cons (pe_callB call_len_seq (by rfl) T.n_len PySem.boot_len (pa_cons (pv 0) pa_nil)) pa_nil))) pa_nil))))))), ?_⟩
    have el : ((ns.map V.int).length : Int) = ns.length := by rw [List.length_map]
    refine ⟨.int m, rfl, .ref a, rfl, a, _, rfl, .inl hS, m, _, rfl, 1, _, rfl, _, rfl, ?_, ?_⟩
    · rw [el]; refine RgOk.of_le (by decide) ?_ (by decide) ?_ <;> (split <;> split <;> omega)
    · intro p hp
      refine q p _ _ (same_upd hp) hp ?_ ?_ upd_same <;> (rw [el]; split <;> split <;> omega)
theorem ok_pot (T : Txt K mg A D) : FnG P w K mg base CX0 1 (A 22) (D 22) ["script", "place"] (spPot K) := by
  refine def_ok0 T.F__law_pot sc__law_pot (fun vs H Q E h => ?_) (fun cdv Ar outer s H vs Q E hr hG h => ?_)
  · obtain ⟨a, ns, m, rfl, _⟩ := h; rfl
  · obtain ⟨a, ns, m, rfl, hS, hl, hb, h0, h1, q⟩ := h
    refine ⟨_, (pss_cons (ps_set (i := 2) sc__law_pot.nd rfl (Or.inl rfl) (pe_cut (pe_ifExp (pt_cmpR op_lt (pv 1) (pe_callB call_len_seq (by rfl) T.n_len PySem.boot_len (pa_cons (pv 0) pa_nil)) (nomark _)) (pe_ix ix_list (pv 0) (pv 1) (fun _ _ => rfl)) (pe_op op_add (pe_op op_add (pe_op op_modN (pe_callB (cr_sum rfl) (by rfl) T.n_sum (by decide +kernel) (pa_cons (pe_slice sl_list (pv 0) po_none (po_some pe_int)) pa_nil)) pe_int) (pe_op op_mulW pe_int (pv 1))) pe_int))))
      (pss_cons (ps_set (i := 3) sc__law_pot.nd rfl (Or.inl rfl) (pe_op op_mulW (pe_op op_modN (pe_callTy call_int1 (by rfl) T.n_int (by decide +kernel) (pa_cons (pe_callB call_abs (by rfl) T.n_abs (by decide +kernel) (pa_cons (pv 2) pa_nil)) pa_nil)) (pe_op op_powB (pe_op op_powB pe_int pe_int) pe_int)) (pe_callTy call_int1 (by rfl) T.n_int (by decide +kernel) (pa_cons (pe_cmpR op_ge (pe_callB call_abs (by rfl) T.n_abs (by decide +kernel) (pa_cons (pv 2) pa_nil)) (pe_op op_powB pe_int pe_int) (nomark _)) pa_nil))))
      (pss_cons (ps_set (i := 4) sc__law_pot.nd rfl (Or.inl rfl) (pe_op op_modN (pe_callTy call_int1 (by rfl) T.n_int (by decide +kernel) (pa_cons (pv 2) pa_nil)) pe_int))
      (pss_one (ps_ret (pe_lst (pa_cons (pv 3) (pa_cons (pe_op op_modN (pe_callTy call_int1 (by rfl) T.n_int (by decide +kernel) (pa_cons (pe_op op_add (pe_op op_add (pe_op op_mulW (pv 4) pe_int) (pe_op op_mulW (pe_op op_mulW pe_int (pv 1)) (pv 1))) pe_int) pa_nil)) pe_int) (pa_cons pe_int pa_nil))))))))), ?_⟩
    have el : ((ns.map V.int).length : Int) = ns.length := by rw [List.length_map]
    refine ⟨fun v H' => ∃ cell, v = .int cell ∧ Same H H', ?_, ?_⟩
    · refine ⟨.int m, rfl, .ref a, rfl, a, _, rfl, .inl hS, m, _, rfl, rfl, _, rfl, ite2 (fun e => ?_) (fun e => ?_)⟩
      · obtain ⟨x, hx, ex⟩ := atI_some h0 (of_decide_eq_true e)
        obtain ⟨z, hz, rfl⟩ := List.mem_map.mp hx
        exact ⟨.ref a, rfl, .int m, rfl, a, _, m, .int z, rfl, rfl, hS, ex, z, rfl, Same.refl _⟩
      · refine ⟨.ref a, rfl, 1, rfl, a, _, rfl, hS, fun c nc => ?_⟩
        refine ⟨c, ns.take 1, rfl, ?_, _, 1000003, rfl, rfl, (show (1000003 : Int) ≠ 0 by decide), .int m, rfl, 39097, m, rfl, rfl, ?_, _, _, rfl, rfl, _, 11471, rfl, rfl, _, rfl, same_upd nc⟩
        · rw [cut_to1] <;> exact SqL.of upd_same
        · exact wide_mul (a := 20) (b := 10) (by decide) (abs_lt h0 (by omega)) (by decide) (by decide) (by decide)
    · rintro v H1 ⟨cell, rfl, sm⟩
      have M0 : (0 : Int) < ((10 : Int) ^ (60 : Int).toNat) ^ (5 : Int).toNat := by decide +kernel
      have M1 : ((10 : Int) ^ (60 : Int).toNat) ^ (5 : Int).toNat < 2 ^ 1000 := by decide +kernel
      have pa : CPowB 10 60 := powB 10 (by decide) (by decide) (by decide) (by decide)
      have pb : CPowB ((10 : Int) ^ (60 : Int).toNat) 5 := powB 200 (by decide +kernel) (by decide) (by decide) (by decide)
      have pc : CPowB 10 18 := powB 10 (by decide) (by decide) (by decide) (by decide)
      refine ⟨.int cell, rfl, _, rfl, .inl ⟨_, rfl, 10, 60, rfl, rfl, pa, _, 5, rfl, rfl, pb, _, _, rfl, rfl, (Int.ne_of_gt M0), .int cell, rfl, _, rfl, 10, 18, rfl, rfl, pc, _, _, rfl, rfl, .inr ⟨_, rfl, ?_⟩⟩⟩
      obtain ⟨x, hx⟩ : ∃ x, x = (if cell < 0 then -cell else cell) := ⟨_, rfl⟩
      obtain ⟨bb, hbb⟩ : ∃ bb, bb = decide ((10 : Int) ^ (18 : Int).toNat ≤ x) := ⟨_, rfl⟩
      have g0 := fmod_lo (i := x) M0
      have g1 := fmod_hi (i := x) M0
      rw [hx] at hbb g0 g1
      have gb : (if bb = true then (1 : Int) else 0) = 0 ∨ (if bb = true then (1 : Int) else 0) = 1 := by cases bb <;> simp
      rw [hbb] at gb
      refine ⟨_, _, rfl, rfl, wide_mul (a := 1000) (b := 1) (abs_lt g0 (Int.lt_trans g1 M1)) (by rcases gb with z | z <;> rw [z] <;> decide) (by decide) (by decide) (by decide), ?_⟩
      obtain ⟨own, ho⟩ : ∃ own, own = ((if cell < 0 then -cell else cell).fmod (((10 : Int) ^ (60 : Int).toNat) ^ (5 : Int).toNat)) * (if decide ((10 : Int) ^ (18 : Int).toNat ≤ (if cell < 0 then -cell else cell)) = true then (1 : Int) else 0) := ⟨_, rfl⟩
      have ho0 : 0 ≤ own ∧ own < 2 ^ 1000 := by
        rw [ho]
        rcases gb with z | z <;> rw [z]
        · rw [Int.mul_zero]; exact ⟨by decide, by decide⟩
        · rw [Int.mul_one]; exact ⟨g0, Int.lt_trans g1 M1⟩
      refine ⟨.int cell, rfl, .inl ⟨_, rfl, _, 2305843009213693951, rfl, rfl, (show (2305843009213693951 : Int) ≠ 0 by decide), ?_⟩⟩
      have s0 := fmod_lo (i := cell) (u := 2305843009213693951) (by decide)
      have s1 := fmod_hi (i := cell) (u := 2305843009213693951) (by decide)
      have ks : (cell.fmod 2305843009213693951).natAbs < 2 ^ 61 := abs_lt s0 (by omega)
      have km : m.natAbs < 2 ^ 7 := abs_lt h0 (by omega)
      have kn : (28943 * m).natAbs < 2 ^ 22 := by omega
      refine ⟨_, rfl, _, rfl, _, 130027, rfl, rfl, wide_mul (b := 20) ks (by decide) (by decide) (by decide) (by decide), .int m, rfl, 28943, m, rfl, rfl, wide_mul (a := 20) (by decide) km (by decide) (by decide) (by decide), .int m, rfl, _, m, rfl, rfl, wide_mul kn km (by decide) (by decide) (by decide), _, _, rfl, rfl, _, 14323, rfl, rfl, .inl ⟨_, rfl, _, 2305843009213693921, rfl, rfl, (show (2305843009213693921 : Int) ≠ 0 by decide), (by show 3 ≤ sizeLine; decide), fun p hp => ?_⟩⟩
      have t0 := fmod_lo (i := cell.fmod 2305843009213693951 * 130027 + 28943 * m * m + 14323) (u := 2305843009213693921) (by decide)
      have t1 := fmod_hi (i := cell.fmod 2305843009213693951 * 130027 + 28943 * m * m + 14323) (u := 2305843009213693921) (by decide)
      refine q p _ (sm.trans (same_upd hp)) ?_ ⟨_, _, 0, upd_same, (by rw [← ho]; exact ho0.1), (by rw [← ho]; exact ho0.2), t0, by omega, by decide, by decide⟩
      exact sm.free hp
end
end My

namespace My
open PySem PySem.Spec PyProof.Rows L2
/-- is_integer(value) -/
def spInt : Sp := fun vs H Q _ => ∃ x, vs = [x] ∧ Known H x ∧ Q (.bl (isIntV x)) H
/-- is_between(value, low, high) of whole numbers -/
def spBetween : Sp := fun vs H Q _ => ∃ a l h : Int, vs = [.int a, .int l, .int h] ∧ Q (.bl (decide (l ≤ a) && decide (a ≤ h))) H
def spCommon : Sp := fun vs H Q _ => ∃ a b : Int, vs = [.int a, .int b] ∧ Q (.int ((Int.gcd a b : Nat) : Int)) H
/-- is_fraction of two whole numbers -/
def spFrac : Sp := fun vs H Q _ => ∃ (t : Addr) (a b : Int), vs = [.ref t] ∧ H t = some (.tup [.int a, .int b]) ∧ Q (.bl (decide (b ≥ 1) && decide (Int.gcd a b = 1))) H
def rhoI (b : Bool) : Int := if b = true then 1 else 0
def spBound : Sp := fun vs H Q _ => ∃ (n : Int) (b : Bool), vs = [.int n, .bl b] ∧ n.natAbs < 2 ^ 60 ∧ Q (.int (2 * n + rhoI b)) H
def spSum : Sp := fun vs H Q _ => ∃ a b : Int, vs = [.int a, .int b] ∧ a.natAbs < 2 ^ 300 ∧ b.natAbs < 2 ^ 300 ∧ ∀ H', Same H H' → Q (.int (sumB a b)) H'
theorem abs_if (a : Int) : (if a < 0 then -a else a) = ((a.natAbs : Nat) : Int) := by split <;> omega
theorem gcd_turn {x y : Nat} : Nat.gcd y (x % y) = Nat.gcd x y := by
  rw [Nat.gcd_comm y (x % y), Nat.gcd_comm x y]
  exact (Nat.gcd_rec y x).symm
theorem fmod_nat {x y : Nat} (h : y ≠ 0) : (x : Int).fmod (y : Int) = ((x % y : Nat) : Int) := by
  rw [Int.fmod_eq_emod_of_nonneg _ (by omega)]; rfl
section
variable {P : Program} {w : World} {K : PySem.W.Frag} {mg : Str → Option Value} {base : Heap} {A : Nat → Addr} {D : Nat → FuncData}
theorem ok_int (T : Txt K mg A D) : FnG P w K mg base CX0 1 (A 0) (D 0) ["value"] spInt := by
  refine def_ok0 T.F_is_integer sc_is_integer (fun vs H Q E h => ?_) (fun cdv Ar outer s H vs Q E hr hG h => ?_)
  · obtain ⟨x, rfl, _⟩ := h; rfl
  · obtain ⟨x, rfl, k, q⟩ := h
    refine ⟨_, (pss_one (ps_ret (pe_and (pe_callB call_isi (by rfl) T.n_isinstance (by decide +kernel) (pa_cons (pv 0) (pa_cons (pe_bltn (v := .ty "int") (by rfl) T.n_int (by decide +kernel) rfl) pa_nil))) (pe_one (pe_not (pe_callB call_isi (by rfl) T.n_isinstance (by decide +kernel) (pa_cons (pv 0) (pa_cons (pe_bltn (v := .ty "bool") (by rfl) T.n_bool (by decide +kernel) rfl) pa_nil)))))))), ?_⟩
    obtain ⟨t, ty, e1⟩ := k.kInt (K := K)
    obtain ⟨t2, ty2, e2⟩ := k.kBool (K := K)
    refine ⟨x, rfl, x, .ty "int", t, _, _, rfl, .ty _, ty, e1, _, rfl, ?_⟩
    by_cases z : (isIntV x || isBlV x) = true
    · rw [if_pos z]
      refine ⟨x, rfl, x, .ty "bool", t2, _, _, rfl, .ty _, ty2, e2, _, rfl, ?_⟩
      have e := isInt_and z
      rw [e]; exact q
    · rw [if_neg z]
      have e := isInt_no z
      rw [e] at q; exact q
theorem ok_between (T : Txt K mg A D) : FnG P w K mg base CX0 2 (A 1) (D 1) ["value", "low", "high"] spBetween := by
  have G_is_integer := ok_int (P := P) (w := w) (base := base) T
  refine def_ok0 T.F_is_between sc_is_between (fun vs H Q E h => ?_) (fun cdv Ar outer s H vs Q E hr hG h => ?_)
  · obtain ⟨a, l, u, rfl, _⟩ := h; rfl
  · obtain ⟨a, l, u, rfl, q⟩ := h
    refine ⟨_, (pss_one (ps_ret (pe_and (pe_cg G_is_integer (hr.mono (by first | decide | omega)) hG (by rfl) T.g_is_integer T.F_is_integer.kp T.b_is_integer pass0 (pa_cons (pv 0) pa_nil)) (pe_one (pe_chain op_le op_le (pv 1) (pv 0) (pv 2)))))), ?_⟩
    refine ⟨_, rfl, _, rfl, .int a, ?_⟩
    refine ⟨true, rfl, _, rfl, _, rfl, _, _, rfl, rfl, _, rfl, ?_⟩
    by_cases z : l ≤ a
    · rw [decide_eq_true z] at q ⊢
      refine ⟨_, rfl, _, _, rfl, rfl, ?_⟩
      rwa [Bool.true_and] at q
    · rw [decide_eq_false z] at q ⊢
      rwa [Bool.false_and] at q
theorem ok_common (T : Txt K mg A D) : FnG P w K mg base CX0 1 (A 2) (D 2) ["one", "other"] spCommon := by
  refine def_ok0 T.F_common sc_common (fun vs H Q E h => ?_) (fun cdv Ar outer s H vs Q E hr hG h => ?_)
  · obtain ⟨a, b, rfl, _⟩ := h; rfl
  · obtain ⟨a, b, rfl, q⟩ := h
    refine ⟨_, (pss_cons (ps_par (i := 0) (j := 1) (by rfl) sc_common.nd rfl rfl (by decide) rfl rfl (pa_cons (pe_callB call_abs (by rfl) T.n_abs (by decide +kernel) (pa_cons (pv 0) pa_nil)) (pa_cons (pe_callB call_abs (by rfl) T.n_abs (by decide +kernel) (pa_cons (pv 1) pa_nil)) pa_nil)) (by rfl))
      (pss_cons (ps_while (by first | exact PassesOwn.never | exact PassesOwn.leaving | exact L2.passes_of rfl) (pt_cmpR op_ne (pv 1) pe_int (nomark _)) (pss_one (ps_par (i := 0) (j := 1) (by rfl) sc_common.nd rfl rfl (by decide) rfl rfl (pa_cons (pv 1) (pa_cons (pe_op op_modN (pv 0) (pv 1)) pa_nil)) (by rfl))))
      (pss_one (ps_ret (pv 0))))), ?_⟩
    refine ⟨.int a, rfl, a, rfl, .int b, rfl, b, rfl, _, _, rfl, ?_⟩
    rw [abs_if a, abs_if b]
    refine while_by (fun σ H' => ∃ x y : Nat, σ = [some (.int x), some (.int y)] ∧ Nat.gcd x y = Int.gcd a b ∧ H' = H)
      (fun σ _ => match σ with | [_, some (.int y)] => y.natAbs | _ => 0) ⟨_, _, rfl, rfl, rfl⟩ ?_ ?_
    · rintro σ H' ⟨x, y, rfl, eg, rfl⟩
      refine ⟨_, rfl, rfl, _, rfl, ite2 (fun e => ?_) (fun e => ?_)⟩
      · have hy : y ≠ 0 := by
          intro z
          subst z
          simp at e
        refine ⟨_, rfl, _, rfl, _, rfl, _, _, rfl, rfl, (show ((y : Nat) : Int) ≠ 0 by omega), _, _, rfl, ?_⟩
        refine ⟨⟨y, x % y, ?_, by rw [gcd_turn]; exact eg, rfl⟩, ?_⟩
        · show [some (V.int y), some (V.int ((x : Int).fmod (y : Int)))] = _
          rw [fmod_nat hy]
        · show ((x : Int).fmod (y : Int)).natAbs < ((y : Nat) : Int).natAbs
          rw [fmod_nat hy]
          have := Nat.mod_lt x (Nat.pos_of_ne_zero hy)
          omega
      · have hy : y = 0 := by
          have e2 : V.int (y : Int) = V.int 0 := by
            simpa using e
          have e3 := V.int.inj e2
          omega
        subst hy
        rw [Nat.gcd_zero_right] at eg
        subst eg
        exact ⟨_, rfl, q⟩
    · rintro σ H' Q1 Q2 hh ⟨v, e, sc, k, ek, q⟩
      exact ⟨v, e, sc, k, ek, hh _ _ q⟩
theorem ok_frac (T : Txt K mg A D) : FnG P w K mg base CX0 2 (A 3) (D 3) ["value"] spFrac := by
  have G_is_integer := ok_int (P := P) (w := w) (base := base) T
  have G_common := ok_common (P := P) (w := w) (base := base) T
  refine def_ok0 T.F_is_fraction sc_is_fraction (fun vs H Q E h => ?_) (fun cdv Ar outer s H vs Q E hr hG h => ?_)
  · obtain ⟨t, a, b, rfl, _⟩ := h; rfl
  · obtain ⟨t, a, b, rfl, ht, q⟩ := h
    refine ⟨_, (pss_cons (ps_if (PW.pt (pw_or (pt_not (pt_val (pe_callB call_isi (by rfl) T.n_isinstance (by decide +kernel) (pa_cons (pv 0) (pa_cons (pe_bltn (v := .ty "tuple") (by rfl) T.n_tuple (by decide +kernel) rfl) pa_nil))))) (pw_or (pt_cmpR op_ne (pe_callB call_len_seq (by rfl) T.n_len PySem.boot_len (pa_cons (pv 0) pa_nil)) pe_int (nomark _)) (pw_or (pt_not (pt_val (pe_cg G_is_integer (hr.mono (by first | decide | omega)) hG (by rfl) T.g_is_integer T.F_is_integer.kp T.b_is_integer pass0 (pa_cons (pe_ix ix_tup (pv 0) pe_int (fun _ _ => rfl)) pa_nil)))) (pw_or1 (pt_not (pt_val (pe_cg G_is_integer (hr.mono (by first | decide | omega)) hG (by rfl) T.g_is_integer T.F_is_integer.kp T.b_is_integer pass0 (pa_cons (pe_ix ix_tup (pv 0) pe_int (fun _ _ => rfl)) pa_nil))))))))) (pss_one (ps_ret pe_bl)) pss_nil)
      (pss_one (ps_ret (pe_and (pe_cmpR op_ge (pe_ix ix_tup (pv 0) pe_int (fun _ _ => rfl)) pe_int (nomark _)) (pe_one (pe_cmpR op_eq (pe_cg G_common (hr.mono (by first | decide | omega)) hG (by rfl) T.g_common T.F_common.kp T.b_common pass0 (pa_cons (pe_ix ix_tup (pv 0) pe_int (fun _ _ => rfl)) (pa_cons (pe_ix ix_tup (pv 0) pe_int (fun _ _ => rfl)) pa_nil))) pe_int (nomark _))))))), ?_⟩
    obtain ⟨ty, kt, e1⟩ := kTup (K := K) ht
    have s2 : SqT K H t [.int a, .int b] := SqT.of ht
    refine ⟨_, rfl, _, .ty "tuple", ty, _, _, rfl, .ty _, kt, e1, _, rfl, ?_⟩
    refine ⟨_, rfl, t, _, rfl, .inr s2, rfl, _, rfl, ?_⟩
    refine ⟨_, rfl, t, _, 0, .int a, rfl, rfl, s2, atI_nat (j := 0) rfl, _, rfl, .int a, _, rfl, ?_⟩
    refine ⟨_, rfl, t, _, 1, .int b, rfl, rfl, s2, atI_nat (j := 1) rfl, _, rfl, .int b, _, rfl, ?_⟩
    refine ite2 (fun e => absurd e (by show ¬ (!true) = true; decide)) fun _ => ?_
    refine ⟨_, rfl, t, _, 1, .int b, rfl, rfl, s2, atI_nat (j := 1) rfl, _, _, rfl, rfl, _, rfl, ?_⟩
    by_cases z : 1 ≤ b
    · have z2 : b ≥ 1 := z
      rw [decide_eq_true z2] at q
      rw [if_pos (decide_eq_true z)]
      refine ⟨_, rfl, t, _, 0, .int a, rfl, rfl, s2, atI_nat (j := 0) rfl, _, rfl, t, _, 1, .int b, rfl, rfl, s2, atI_nat (j := 1) rfl, a, b, rfl, rfl, ?_⟩
      rw [Bool.true_and] at q
      have e : decide (V.int ((Int.gcd a b : Nat) : Int) = V.int 1) = decide (Int.gcd a b = 1) := decide_eq_decide.mpr ⟨fun y => by have := V.int.inj y; omega, fun y => by rw [y]; rfl⟩
      show Q (.bl (decide (V.int ((Int.gcd a b : Nat) : Int) = V.int 1))) H
      rw [e]; exact q
    · have z2 : ¬ b ≥ 1 := z
      rw [decide_eq_false z2, Bool.false_and] at q
      rw [if_neg (by rw [decide_eq_false z]; decide)]
      exact q
theorem ok_bound (T : Txt K mg A D) : FnG P w K mg base CX0 1 (A 4) (D 4) ["number", "is_reached"] spBound := by
  refine def_ok0 T.F_bound_of sc_bound_of (fun vs H Q E h => ?_) (fun cdv Ar outer s H vs Q E hr hG h => ?_)
  · obtain ⟨n, b, rfl, _⟩ := h; rfl
  · obtain ⟨n, b, rfl, l, q⟩ := h
    refine ⟨_, (pss_one (ps_ret (pe_op op_add (pe_op op_mulW pe_int (pv 0)) (pe_ifExp (pt_val (pv 1)) (pe_gl T.c_REACHED) pe_int)))), ?_⟩
    refine ⟨_, rfl, 2, n, rfl, rfl, wide_mul (a := 2) (b := 60) (by decide) l (by decide) (by decide) (by decide), .bl b, rfl, b, rfl, ?_⟩
    cases b with
    | true => exact ⟨_, _, rfl, rfl, q⟩
    | false => exact ⟨_, _, rfl, rfl, q⟩
theorem ok_sum (T : Txt K mg A D) : FnG P w K mg base CX0 1 (A 5) (D 5) ["one", "other"] spSum := by
  refine def_ok0 T.F_sum_of_bounds sc_sum_of_bounds (fun vs H Q E h => ?_) (fun cdv Ar outer s H vs Q E hr hG h => ?_)
  · obtain ⟨a, b, rfl, _⟩ := h; rfl
  · obtain ⟨a, b, rfl, la, lb, q⟩ := h
    refine ⟨_, (pss_cons (ps_if (pt_cmpR op_in_seq (pe_gl T.c_FAR) (pe_tup (pa_cons (pv 0) (pa_cons (pv 1) pa_nil))) (by rfl)) (pss_one (ps_ret (pe_gl T.c_FAR))) pss_nil)
      (pss_one (ps_ret (pe_op op_add (pe_op op_mulW pe_int (pe_op op_add (pe_op op_fdivW (pv 0) pe_int) (pe_op op_fdivW (pv 1) pe_int))) (pe_op op_mulW (pe_op op_modN (pv 0) pe_int) (pe_op op_modN (pv 1) pe_int)))))), ?_⟩
    refine ⟨_, rfl, _, rfl, (by show 2 ≤ sizeLine; decide), fun p np => ?_⟩
    have ei : inV (.int 1000000) [.int a, .int b] = decide (a = 1000000 ∨ b = 1000000) := by
      show ((a == 1000000) || ((b == 1000000) || false)) = _
      by_cases x : a = 1000000 <;> by_cases y : b = 1000000 <;> simp [x, y]
    refine ⟨p, _, rfl, .inr (SqT.of upd_same), rfl, rfl, _, rfl, ?_⟩
    have sm := same_upd (o := .tup [.int a, .int b]) np
    rw [ei]
    by_cases z : a = 1000000 ∨ b = 1000000
    · rw [decide_eq_true z]
      have := q _ sm
      rw [sumB_far z] at this
      exact this
    · rw [decide_eq_false z]
      have h2 : ∀ x : Int, x.natAbs < 2 ^ 300 → (x / 2).natAbs < 2 ^ 300 := fun x hx => by omega
      have h3 : ∀ x : Int, (x.fmod 2).natAbs < 2 ^ 2 := fun x => by rw [Int.fmod_eq_emod_of_nonneg _ (by decide)]; omega
      have d2 : ∀ x : Int, CDivW x 2 := fun x => wide_div (b := 2) (by decide) (by decide) (by decide) (by decide)
      have l4 : (a / 2 + b / 2).natAbs < 2 ^ 301 := by
        have := h2 a la
        have := h2 b lb
        omega
      refine ⟨_, rfl, _, _, rfl, rfl, d2 _, _, rfl, _, _, rfl, rfl, d2 _, _, _, rfl, rfl, _, _, rfl, rfl, wide_mul (a := 2) (by decide) l4 (by decide) (by decide) (by decide), ?_⟩
      refine ⟨_, rfl, _, _, rfl, rfl, (show (2 : Int) ≠ 0 by decide), _, rfl, _, _, rfl, rfl, (show (2 : Int) ≠ 0 by decide), _, _, rfl, rfl, wide_mul (h3 a) (h3 b) (by decide) (by decide) (by decide), _, _, rfl, rfl, ?_⟩
      have := q _ sm
      unfold sumB at this
      rw [if_neg z] at this
      rw [Int.fmod_eq_emod_of_nonneg _ (by decide), Int.fmod_eq_emod_of_nonneg _ (by decide)]
      exact this
end
end My

namespace My
open PySem PySem.Spec PyProof.Rows L2
/-! ### squares as items of a list -/
def tab (n : Nat) (f : Nat → Int) : List V := (List.range (n * n)).map fun i => V.int (f i)
theorem tab_len (n : Nat) (f : Nat → Int) : (tab n f).length = n * n := by unfold tab; rw [List.length_map, List.length_range]
theorem tab_get {n i : Nat} {f : Nat → Int} (h : i < n * n) : (tab n f)[i]? = some (V.int (f i)) := by
  unfold tab
  rw [List.getElem?_map, List.getElem?_range h]; rfl
theorem tab_at {n i : Nat} {f : Nat → Int} {z : Int} (h : i < n * n) (e : z = (i : Nat)) : atI (tab n f) z = some (V.int (f i)) := by
  subst e
  exact atI_nat (tab_get h)
theorem tab_set {n i : Nat} {f : Nat → Int} {v : Int} : (tab n f).set i (V.int v) = tab n (upF f i v) := by
  apply List.ext_getElem?
  intro j
  rw [List.getElem?_set]
  unfold tab
  by_cases hj : j < n * n
  · rw [List.getElem?_map, List.getElem?_map, List.getElem?_range hj, List.length_map, List.length_range]
    by_cases e : i = j
    · subst e
      rw [if_pos rfl, if_pos hj]
      show _ = some (V.int (upF f i v i))
      rw [upF_same]
    · rw [if_neg e]
      show some (V.int (f j)) = some (V.int (upF f i v j))
      rw [upF_ne (fun z => e z.symm)]
  · have hr : (List.range (n * n))[j]? = none := List.getElem?_eq_none (by rw [List.length_range]; omega)
    rw [List.getElem?_map, List.getElem?_map, hr, List.length_map, List.length_range]
    by_cases e : i = j
    · rw [if_pos e, if_neg (by omega)]; rfl
    · rw [if_neg e]; rfl
theorem tab_congr {n : Nat} {f g : Nat → Int} (h : ∀ i, i < n * n → f i = g i) : tab n f = tab n g := by
  unfold tab
  refine List.map_congr_left fun i hi => ?_
  rw [h i (List.mem_range.mp hi)]
def BdN (N e : Nat) (f : Nat → Int) : Prop := ∀ i, i < N → (f i).natAbs < 2 ^ e
theorem BdN.mono {N e d : Nat} {f : Nat → Int} (h : BdN N e f) (l : e ≤ d) : BdN N d f := fun i hi => Nat.lt_of_lt_of_le (h i hi) (Nat.pow_le_pow_right (by decide) l)
theorem BdN.step {n e m r c : Nat} {f : Nat → Int} (h : BdN (n * n) e f) (hm : m < n) (hr : r < n) (hc : c < n) : BdN (n * n) (e + 2) (stepF n m r c f) := by
  intro i hi
  have e2 : 2 ^ (e + 2) = 4 * 2 ^ e := by rw [Nat.pow_add]; omega
  have ep : 0 < 2 ^ e := Nat.pow_pos (by decide)
  unfold stepF
  by_cases z : i = r * n + c
  · subst z
    rw [upF_same]
    have a := h _ (ix_lt hr hc)
    have b := h _ (ix_lt hr hm)
    have d := h _ (ix_lt hm hc)
    have s : (sumB (f (r * n + m)) (f (m * n + c))).natAbs < 4 * 2 ^ e := by
      by_cases y : f (r * n + m) = 1000000 ∨ f (m * n + c) = 1000000
      · rw [sumB_far y]
        rcases y with y | y
        · rw [y] at b; omega
        · rw [y] at d; omega
      · have := sumB_fin (a := f (r * n + m)) (b := f (m * n + c)) (fun q => y (.inl q)) (fun q => y (.inr q))
        omega
    omega
  · rw [upF_ne z]
    have := h i hi
    omega
theorem BdN.col {n e m r : Nat} {f : Nat → Int} (h : BdN (n * n) e f) (hm : m < n) (hr : r < n) : ∀ j, j ≤ n → BdN (n * n) (e + 2 * j) (colF n m r j f)
  | 0, _ => h
  | j + 1, hj => (BdN.step (BdN.col h hm hr j (by omega)) hm hr (by omega)).mono (by omega)
theorem BdN.row {n e m : Nat} {f : Nat → Int} (h : BdN (n * n) e f) (hm : m < n) : ∀ i, i ≤ n → BdN (n * n) (e + 2 * n * i) (rowF n m i f)
  | 0, _ => h
  | i + 1, hi => (BdN.col (BdN.row h hm i (by omega)) hm (by omega) n (Nat.le_refl _)).mono (by rw [Nat.mul_add]; omega)
theorem BdN.fw {n e : Nat} {f : Nat → Int} (h : BdN (n * n) e f) : ∀ k, k ≤ n → BdN (n * n) (e + 2 * n * n * k) (fwF n k f)
  | 0, _ => h
  | k + 1, hk => (BdN.row (BdN.fw h k (by omega)) (by omega) n (Nat.le_refl _)).mono (by rw [Nat.mul_add]; omega)
/-- any stage of the three loops -/
theorem BdN.stage {n k i j : Nat} {f : Nat → Int} (h : BdN (n * n) 25 f) (hn : n ≤ 4) (hk : k < n) (hi : i < n) (hj : j ≤ n) : BdN (n * n) 300 (colF n k i j (rowF n k i (fwF n k f))) := by
  refine (((h.fw k (by omega)).row hk i (by omega)).col hk hi j hj).mono ?_
  have a : n * n ≤ 16 := Nat.mul_le_mul hn hn
  have b : n * n * k ≤ 16 * 3 := Nat.mul_le_mul a (by omega)
  have c : n * i ≤ 4 * 3 := Nat.mul_le_mul hn (by omega)
  have d : 2 * n * n * k = 2 * (n * n * k) := by rw [Nat.mul_assoc 2 n n, Nat.mul_assoc 2]
  have e : 2 * n * i = 2 * (n * i) := Nat.mul_assoc _ _ _
  omega
theorem ixI {n r c : Nat} : ((r : Int) * (n : Int) + (c : Int)) = ((r * n + c : Nat) : Int) := by omega
theorem ixI0 {n r c : Nat} : ((0 + (r : Int)) * (n : Int) + (0 + (c : Int))) = ((r * n + c : Nat) : Int) := by rw [Int.zero_add, Int.zero_add]; exact ixI
theorem mulI {r n : Nat} (h : r < n) (hn : n ≤ 4) : CMulW (0 + (r : Int)) (n : Int) := wide_mul (a := 20) (b := 20) (by omega) (by omega) (by decide) (by decide) (by decide)
theorem upF_id {f : Nat → Int} {i : Nat} : upF f i (f i) = f := by
  funext j
  by_cases e : j = i
  · rw [e, upF_same]
  · rw [upF_ne e]
/-- side_of(zone) -/
def spSide : Sp := fun vs H Q _ => ∃ (a : Addr) (xs : List V) (n : Nat), vs = [.ref a] ∧ H a = some (.tup xs) ∧ xs.length = n * n ∧ 1 ≤ n ∧ n ≤ 1000 ∧ Q (.int n) H
/-- tight(bounds, size) -/
def spTight : Sp := fun vs H Q _ => ∃ (p : Addr) (n : Nat) (f : Nat → Int), vs = [.ref p, .int n] ∧ H p = some (.lst (tab n f)) ∧ n ≤ 4 ∧ BdN (n * n) 25 f ∧
  ((∃ i, i < n ∧ fwF n n f (i * n + i) < 1) → ∀ H', But p H H' → Q .non H') ∧
  ((∀ i, i < n → 1 ≤ fwF n n f (i * n + i)) → ∀ a H', But p H H' → H a = none → a ≠ p → H' a = some (.tup (tab n (fwF n n f))) → Q (.ref a) H')
section
variable {P : Program} {w : World} {K : PySem.W.Frag} {mg : Str → Option Value} {base : Heap} {A : Nat → Addr} {D : Nat → FuncData}
theorem ok_side (T : Txt K mg A D) : FnG P w K mg base CX0 1 (A 6) (D 6) ["zone"] spSide := by
  refine def_ok0 T.F_side_of sc_side_of (fun vs H Q E h => ?_) (fun cdv Ar outer s H vs Q E hr hG h => ?_)
  · obtain ⟨a, xs, n, rfl, _⟩ := h; rfl
  · obtain ⟨a, xs, n, rfl, ha, hl, n1, n2, q⟩ := h
    refine ⟨_, (pss_cons (ps_set (i := 1) sc_side_of.nd rfl (Or.inl rfl) pe_int)
      (pss_cons (ps_while (by first | exact PassesOwn.never | exact PassesOwn.leaving | exact L2.passes_of rfl) (pt_cmpR op_lt (pe_op op_mulW (pv 1) (pv 1)) (pe_callB call_len_seq (by rfl) T.n_len PySem.boot_len (pa_cons (pv 0) pa_nil)) (nomark _)) (pss_one (ps_set (i := 1) sc_side_of.nd rfl (Or.inl rfl) (pe_op op_add (pv 1) pe_int))))
      (pss_one (ps_ret (pv 1))))), ?_⟩
    refine while_by (fun σ H' => ∃ x : Nat, σ = [some (.ref a), some (.int x)] ∧ 1 ≤ x ∧ x ≤ n ∧ H' = H) (fun σ _ => match σ with | [_, some (.int y)] => n - y.natAbs | _ => 0) ⟨1, rfl, Nat.le_refl _, n1, rfl⟩ ?_ ?_
    · rintro σ H' ⟨x, rfl, x1, x2, rfl⟩
      refine ⟨_, rfl, _, rfl, _, _, rfl, rfl, wide_mul (a := 20) (b := 20) (by omega) (by omega) (by decide) (by decide) (by decide), ?_⟩
      refine ⟨_, rfl, a, xs, rfl, .inr (SqT.of ha), _, _, rfl, rfl, _, rfl, ite2 (fun e => ?_) (fun e => ?_)⟩
      · have e2 : (x : Int) * x < xs.length := of_decide_eq_true e
        rw [hl, show ((n * n : Nat) : Int) = (n : Int) * n from Int.natCast_mul n n] at e2
        have lt : x < n := by
          refine Nat.lt_of_not_le fun z => ?_
          have : n * n ≤ x * x := Nat.mul_le_mul z z
          have h3 : ((n * n : Nat) : Int) ≤ ((x * x : Nat) : Int) := by omega
          rw [Int.natCast_mul, Int.natCast_mul] at h3
          omega
        refine ⟨_, rfl, _, _, rfl, rfl, ⟨x + 1, rfl, by omega, by omega, rfl⟩, ?_⟩
        show n - ((x : Int) + 1).natAbs < n - (x : Int).natAbs
        omega
      · have e2 : ¬ (x : Int) * x < xs.length := fun z => e (decide_eq_true z)
        rw [hl, show ((n * n : Nat) : Int) = (n : Int) * n from Int.natCast_mul n n] at e2
        have ge : n ≤ x := by
          refine Nat.le_of_not_lt fun z => e2 ?_
          have : x * x < n * n := Nat.mul_lt_mul_of_lt_of_le z (Nat.le_of_lt z) (by omega)
          have h3 : ((x * x : Nat) : Int) < ((n * n : Nat) : Int) := by omega
          rwa [Int.natCast_mul, Int.natCast_mul] at h3
        obtain rfl : x = n := by omega
        exact ⟨_, rfl, q⟩
    · rintro σ H' Q1 Q2 hh ⟨v, e, v2, e2, i1, j1, z1, z2, c1, v3, e3, p1, ys, z3, sq, i2, j2, z4, z5, k, ek, r⟩
      exact ⟨v, e, v2, e2, i1, j1, z1, z2, c1, v3, e3, p1, ys, z3, sq, i2, j2, z4, z5, k, ek, hh _ _ r⟩
theorem ok_tight (T : Txt K mg A D) : FnG P w K mg base CX0 2 (A 7) (D 7) ["bounds", "size"] spTight := by
  have G_sum_of_bounds := ok_sum (P := P) (w := w) (base := base) T
  refine def_ok0 T.F_tight sc_tight (fun vs H Q E h => ?_) (fun cdv Ar outer s H vs Q E hr hG h => ?_)
  · obtain ⟨p, n, f, rfl, _⟩ := h; rfl
  · obtain ⟨p, n, f, rfl, hp, n4, bd, qn, qy⟩ := h
    refine ⟨_, (pss_cons (ps_for (by first | exact PassesOwn.never | exact PassesOwn.leaving | exact L2.passes_of rfl) rfl (pi_range1 rfl T.n_range (pa_cons (pv 1) pa_nil)) (pg_name (i := 2) sc_tight.nd rfl (Or.inl rfl)) (pss_one (ps_for (by first | exact PassesOwn.never | exact PassesOwn.leaving | exact L2.passes_of rfl) rfl (pi_range1 rfl T.n_range (pa_cons (pv 1) pa_nil)) (pg_name (i := 3) sc_tight.nd rfl (Or.inl rfl)) (pss_one (ps_for (by first | exact PassesOwn.never | exact PassesOwn.leaving | exact L2.passes_of rfl) rfl (pi_range1 rfl T.n_range (pa_cons (pv 1) pa_nil)) (pg_name (i := 4) sc_tight.nd rfl (Or.inl rfl)) (pss_cons (ps_set (i := 5) sc_tight.nd rfl (Or.inl rfl) (pe_cg G_sum_of_bounds (hr.mono (by first | decide | omega)) hG (by rfl) T.g_sum_of_bounds T.F_sum_of_bounds.kp T.b_sum_of_bounds pass0 (pa_cons (pe_ix ix_list (pv 0) (pe_op op_add (pe_op op_mulW (pv 3) (pv 1)) (pv 2)) (fun _ _ => rfl)) (pa_cons (pe_ix ix_list (pv 0) (pe_op op_add (pe_op op_mulW (pv 2) (pv 1)) (pv 4)) (fun _ _ => rfl)) pa_nil))))
      (pss_one (ps_if (pt_cmpR op_lt (pv 5) (pe_ix ix_list (pv 0) (pe_op op_add (pe_op op_mulW (pv 3) (pv 1)) (pv 4)) (fun _ _ => rfl)) (nomark _)) (pss_one (ps_asg (pv 5) (pg_sub (pv 0) (pe_op op_add (pe_op op_mulW (pv 3) (pv 1)) (pv 4)) set_list))) pss_nil))))))))
      (pss_cons (ps_if (pt_val (pe_callB (cr_any rfl) (by rfl) T.n_any (by decide +kernel) (pa_cons (pe_lc (own := [("row", 3)]) (g := gName 3) (tt := tYes) (by rfl) sc_tight.nd (pi_range1 rfl T.n_range (pa_cons (pv 1) pa_nil)) (blkOk_by (own := [("row", 3)]) (N := ["bounds", "size", "middle", "row", "column", "by"]) (sc := defScope s_tight) (by decide +kernel)) (fun _ _ _ _ _ => pg_name (i := 3) sc_tight.nd rfl (by first | exact Or.inl rfl | exact Or.inr rfl | exact Or.inr (Or.inl rfl))) (fun _ _ _ _ _ => pts_nil) (fun _ _ _ _ _ => (pe_cmpR op_lt (pe_ix (ix_listX (K := K)) (pv 0) (pe_op op_add (pe_op op_mulW (pv 3) (pv 1)) (pv 3)) (fun _ _ => rfl)) (pe_gl T.c_NOUGHT) (nomark _)))) pa_nil))) (pss_one (ps_ret pe_non)) pss_nil)
      (pss_one (ps_ret (pe_callTy call_tuple_of (by rfl) T.n_tuple (by decide +kernel) (pa_cons (pv 0) pa_nil)))))), ?_⟩
    refine ⟨_, rfl, _, rfl, by omega, by omega, for_range (fun k σ H' => ∃ u2 u3 u4 u5, σ = [some (.ref p), some (.int n), u2, u3, u4, u5] ∧ H' p = some (.lst (tab n (fwF n k f))) ∧ But p H H') ⟨none, none, none, none, rfl, hp, But.refl p H⟩ ?_ ?_⟩
    · rintro k σ H1 hk ⟨u2, u3, u4, u5, rfl, hp1, b1⟩
      rw [Int.toNat_natCast] at hk
      refine ⟨_, rfl, _, rfl, by omega, by omega, for_range (fun i σ H' => ∃ u3 u4 u5, σ = [some (.ref p), some (.int n), some (.int (0 + (k : Int))), u3, u4, u5] ∧ H' p = some (.lst (tab n (rowF n k i (fwF n k f)))) ∧ But p H H') ⟨_, _, _, rfl, hp1, b1⟩ ?_ ?_⟩
      · rintro i σ H2 hi ⟨u3, u4, u5, rfl, hp2, b2⟩
        rw [Int.toNat_natCast] at hi
        refine ⟨_, rfl, _, rfl, by omega, by omega, for_range (fun j σ H' => ∃ u4 u5, σ = [some (.ref p), some (.int n), some (.int (0 + (k : Int))), some (.int (0 + (i : Int))), u4, u5] ∧ H' p = some (.lst (tab n (colF n k i j (rowF n k i (fwF n k f))))) ∧ But p H H') ⟨_, _, rfl, hp2, b2⟩ ?_ ?_⟩
        · rintro j σ H3 hj ⟨u4, u5, rfl, hp3, b3⟩
          rw [Int.toNat_natCast] at hj
          have bd3 := bd.stage n4 hk hi (Nat.le_of_lt hj)
          obtain ⟨g, hg⟩ : ∃ g, g = colF n k i j (rowF n k i (fwF n k f)) := ⟨_, rfl⟩
          have en : colF n k i (j + 1) (rowF n k i (fwF n k f)) = stepF n k i j g := by rw [hg]; rfl
          rw [← hg] at bd3 hp3
          rw [en]
          clear hg en
          refine ⟨_, rfl, _, rfl, _, rfl, _, _, rfl, rfl, mulI hi n4, _, rfl, _, _, rfl, rfl, p, _, _, _, rfl, rfl, SqL.of hp3, tab_at (ix_lt hi hk) ixI0, ?_⟩
          refine ⟨_, rfl, _, rfl, _, rfl, _, _, rfl, rfl, mulI hk n4, _, rfl, _, _, rfl, rfl, p, _, _, _, rfl, rfl, SqL.of hp3, tab_at (ix_lt hk hj) ixI0, ?_⟩
          refine ⟨_, _, rfl, bd3 _ (ix_lt hi hk), bd3 _ (ix_lt hk hj), fun H4 s4 => ?_⟩
          have hp4 := s4 _ _ hp3
          refine ⟨_, rfl, _, rfl, _, rfl, _, rfl, _, _, rfl, rfl, mulI hi n4, _, rfl, _, _, rfl, rfl, p, _, _, _, rfl, rfl, SqL.of hp4, tab_at (ix_lt hi hj) ixI0, _, _, rfl, rfl, _, rfl, ite2 (fun e => ?_) (fun e => ?_)⟩
          · have lt := of_decide_eq_true e
            refine ⟨_, rfl, _, rfl, _, rfl, _, rfl, _, _, rfl, rfl, mulI hi n4, _, rfl, _, _, rfl, rfl, p, _, _, _, rfl, rfl, hp4, ixN_nat (by rw [tab_len]; exact ix_lt hi hj) ixI0, ?_⟩
            refine ⟨_, _, rfl, ?_, (b3.trans (But.of s4)).trans But.upd⟩
            rw [upd_same, tab_set]
            unfold stepF
            rw [Int.min_eq_right (Int.le_of_lt lt)]
          · have ge : g (i * n + j) ≤ sumB (g (i * n + k)) (g (k * n + j)) := Int.not_lt.mp fun z => e (decide_eq_true z)
            refine ⟨_, _, rfl, ?_, b3.trans (But.of s4)⟩
            unfold stepF
            rw [Int.min_eq_left ge, upF_id]
            exact hp4
        · rintro σ H3 ⟨u4, u5, rfl, hp3, b3⟩
          rw [Int.toNat_natCast] at hp3
          exact ⟨_, _, _, rfl, hp3, b3⟩
      · rintro σ H2 ⟨u3, u4, u5, rfl, hp2, b2⟩
        rw [Int.toNat_natCast] at hp2
        exact ⟨_, _, _, _, rfl, hp2, b2⟩
    · rintro σ H1 ⟨u2, u3, u4, u5, rfl, hp1, b1⟩
      rw [Int.toNat_natCast] at hp1
      have bdF := (bd.fw n (Nat.le_refl _))
      obtain ⟨F, hF⟩ : ∃ F, F = fwF n n f := ⟨_, rfl⟩
      rw [← hF] at hp1 bdF qn qy
      refine ⟨_, rfl, _, rfl, by omega, by omega, fun D hD => lcV_range (fun i => V.bl (decide (F (i * n + i) < 1))) hD (by rw [Int.toNat_natCast, sizeLine_eq]; omega) (fun i hi H2 Q2 s2 k2 => ?_) (fun H2 s2 h2 => ?_)⟩
      · rw [Int.toNat_natCast] at hi
        refine ⟨_, rfl, _, rfl, _, rfl, _, _, rfl, rfl, mulI hi n4, _, rfl, _, _, rfl, rfl, p, _, _, _, rfl, rfl, SqL.of (s2 _ _ hp1), tab_at (ix_lt hi hi) ixI0, _, _, rfl, rfl, ?_⟩
        exact k2 _ (Same.refl _)
      · rw [Int.toNat_natCast] at h2
        refine ⟨D, (List.range n).map (fun i => decide (F (i * n + i) < 1)), rfl, SqL.of (by rw [h2, List.map_map]; rfl), _, rfl, ite2 (fun e => ?_) (fun e => ?_)⟩
        · obtain ⟨b, hb, e2⟩ := List.any_eq_true.mp e
          obtain ⟨i, hi, rfl⟩ := List.mem_map.mp hb
          exact qn ⟨i, List.mem_range.mp hi, of_decide_eq_true e2⟩ _ (b1.trans (But.of s2))
        · refine ⟨_, rfl, p, _, rfl, .inl ⟨SqL.of (s2 _ _ hp1), fun a ha => ?_⟩⟩
          refine qy (fun i hi => ?_) a _ ((b1.trans (But.of s2)).trans (But.of (same_upd ha))) ?_ (fun z => ?_) upd_same
          · refine Int.not_lt.mp fun z => e (List.any_eq_true.mpr ⟨true, List.mem_map.mpr ⟨i, List.mem_range.mpr hi, decide_eq_true z⟩, rfl⟩)
          · cases h : H a with
            | none => rfl
            | some o =>
              exfalso
              by_cases z : a = p
              · rw [z] at ha
                rw [s2 _ _ hp1] at ha; cases ha
              · have := s2 _ _ (b1 a o z h)
                rw [this] at ha; cases ha
          · rw [z] at ha
            rw [s2 _ _ hp1] at ha; cases ha
end
end My

namespace My
open PySem PySem.Spec PyProof.Rows L2
def laterS (n : Nat) (f : Nat → Int) (i : Nat) : Nat → Int := fun x => if x % n = 0 ∧ 0 < x ∧ x / n < 1 + i then 1000000 else f x
theorem laterS_0 {n : Nat} {f : Nat → Int} (hn : 0 < n) : laterS n f 0 = f := by
  funext x
  unfold laterS
  rw [if_neg]
  rintro ⟨a, b, c⟩
  have h1 := Nat.div_add_mod x n
  have h0 : x / n = 0 := Nat.lt_one_iff.mp c
  rw [h0, a, Nat.mul_zero] at h1
  omega
theorem laterS_step {n : Nat} {f : Nat → Int} {i : Nat} (hn : 0 < n) : upF (laterS n f i) ((1 + i) * n) 1000000 = laterS n f (i + 1) := by
  funext x
  unfold laterS
  by_cases e : x = (1 + i) * n
  · subst e
    rw [upF_same, if_pos]
    refine ⟨Nat.mul_mod_left _ _, Nat.mul_pos (by omega) hn, ?_⟩
    rw [Nat.mul_div_cancel _ hn]; omega
  · rw [upF_ne e]
    by_cases a : x % n = 0 ∧ 0 < x ∧ x / n < 1 + i
    · rw [if_pos a, if_pos ⟨a.1, a.2.1, by omega⟩]
    · rw [if_neg a, if_neg]
      rintro ⟨b, c, d⟩
      by_cases z : x / n < 1 + i
      · exact a ⟨b, c, z⟩
      · have z2 : x / n = 1 + i := by omega
        have := Nat.div_add_mod x n
        rw [z2, b, Nat.add_zero, Nat.mul_comm] at this
        exact e this.symm
theorem laterS_end {n : Nat} {f : Nat → Int} {x : Nat} (hx : x < n * n) : laterS n f (n - 1) x = laterF n f x := by
  have : x / n < n := Nat.div_lt_of_lt_mul hx
  unfold laterS laterF
  by_cases a : x % n = 0 ∧ 0 < x
  · rw [if_pos a, if_pos ⟨a.1, a.2, by omega⟩]
  · rw [if_neg a, if_neg fun z => a ⟨z.1, z.2.1⟩]
/-- begin_zone(many) -/
def spBegin : Sp := fun vs H Q _ => ∃ n : Nat, vs = [.int (n : Int)] ∧ 1 ≤ n ∧ n ≤ 3 ∧ ∀ p H', Same H H' → H p = none → H' p = some (.tup (tab (n + 1) fun _ => 1)) → Q (.ref p) H'
/-- passed(zone) -/
def spPassed : Sp := fun vs H Q _ => ∃ (a : Addr) (n : Nat) (f : Nat → Int), vs = [.ref a] ∧ H a = some (.tup (tab n f)) ∧ 2 ≤ n ∧ n ≤ 4 ∧ ∀ p H', Same H H' → H p = none → H' p = some (.tup (tab n (laterF n f))) → Q (.ref p) H'
section
variable {P : Program} {w : World} {K : PySem.W.Frag} {mg : Str → Option Value} {base : Heap} {A : Nat → Addr} {D : Nat → FuncData}
theorem ok_begin (T : Txt K mg A D) : FnG P w K mg base CX0 1 (A 8) (D 8) ["many"] spBegin := by
  refine def_ok0 T.F_begin_zone sc_begin_zone (fun vs H Q E h => ?_) (fun cdv Ar outer s H vs Q E hr hG h => ?_)
  · obtain ⟨n, rfl, _⟩ := h; rfl
  · obtain ⟨n, rfl, n1, n3, q⟩ := h
    refine ⟨_, (pss_one (ps_ret (pe_op op_repT (pe_tup (pa_cons (pe_gl T.c_NOUGHT) pa_nil)) (pe_op op_mulW (pe_op op_add (pv 0) pe_int) (pe_op op_add (pv 0) pe_int))))), ?_⟩
    refine ⟨(by show 1 ≤ sizeLine; decide), fun a ha => ?_⟩
    refine ⟨_, rfl, _, _, rfl, rfl, _, rfl, _, _, rfl, rfl, _, _, rfl, rfl, wide_mul (a := 20) (b := 20) (by omega) (by omega) (by decide) (by decide) (by decide), ?_⟩
    have s1 := same_upd (o := .tup [.int 1]) ha
    have c : n = 1 ∨ n = 2 ∨ n = 3 := by omega
    refine ⟨a, _, _, rfl, rfl, SqT.of upd_same, by simp, ?_, ?_, by decide, fun p hp => ?_⟩
    · rcases c with rfl | rfl | rfl <;> decide
    · rcases c with rfl | rfl | rfl <;> decide
    · refine q p _ (s1.trans (same_upd hp)) (s1.free hp) ?_
      rw [upd_same]
      rcases c with rfl | rfl | rfl <;> rfl
theorem ok_passed (T : Txt K mg A D) : FnG P w K mg base CX0 2 (A 9) (D 9) ["zone"] spPassed := by
  have G_side_of := ok_side (P := P) (w := w) (base := base) T
  refine def_ok0 T.F_passed sc_passed (fun vs H Q E h => ?_) (fun cdv Ar outer s H vs Q E hr hG h => ?_)
  · obtain ⟨a, n, f, rfl, _⟩ := h; rfl
  · obtain ⟨a, n, f, rfl, ha, n2, n4, q⟩ := h
    refine ⟨_, (pss_cons (ps_par (i := 1) (j := 2) (by rfl) sc_passed.nd rfl rfl (by decide) rfl rfl (pa_cons (pe_cg G_side_of (hr.mono (by first | decide | omega)) hG (by rfl) T.g_side_of T.F_side_of.kp T.b_side_of pass0 (pa_cons (pv 0) pa_nil)) (pa_cons (pe_callTy call_list_of (by rfl) T.n_list (by decide +kernel) (pa_cons (pv 0) pa_nil)) pa_nil)) (by rfl))
      (pss_cons (ps_for (by first | exact PassesOwn.never | exact PassesOwn.leaving | exact L2.passes_of rfl) rfl (pi_range2 rfl T.n_range (pa_cons pe_int (pa_cons (pv 1) pa_nil))) (pg_name (i := 3) sc_passed.nd rfl (Or.inl rfl)) (pss_one (ps_asg (pe_gl T.c_FAR) (pg_sub (pv 2) (pe_op op_mulW (pv 3) (pv 1)) set_list))))
      (pss_one (ps_ret (pe_callTy call_tuple_of (by rfl) T.n_tuple (by decide +kernel) (pa_cons (pv 2) pa_nil)))))), ?_⟩
    have tl : (tab n f).length = n * n := tab_len n f
    refine ⟨_, rfl, a, tab n f, n, rfl, ha, tl, by omega, by omega, _, rfl, a, _, rfl, .inr (SqT.of ha), fun l hl => ?_⟩
    have s1 := same_upd (o := .lst (tab n f)) hl
    refine ⟨_, _, rfl, _, rfl, _, _, rfl, by omega, for_range (fun i σ H' => ∃ u3, σ = [some (.ref a), some (.int n), some (.ref l), u3] ∧ H' l = some (.lst (tab n (laterS n f i))) ∧ But l H H') ⟨none, rfl, by rw [laterS_0 (by omega), upd_same], But.of s1⟩ ?_ ?_⟩
    · rintro i σ H1 hi ⟨u3, rfl, h1, b1⟩
      have hi2 : i < n - 1 := by omega
      refine ⟨_, rfl, _, rfl, _, rfl, _, _, rfl, rfl, wide_mul (a := 20) (b := 20) (by omega) (by omega) (by decide) (by decide) (by decide), l, _, _, (1 + i) * n, rfl, rfl, h1, ixN_nat ?_ ?_, ?_⟩
      · rw [tab_len]; exact Nat.mul_lt_mul_of_pos_right (by omega) (by omega)
      · show (1 + (i : Int)) * (n : Int) = _
        rw [Int.natCast_mul]; rfl
      · refine ⟨_, rfl, ?_, b1.trans But.upd⟩
        rw [upd_same, tab_set, laterS_step (by omega)]
    · rintro σ H1 ⟨u3, rfl, h1, b1⟩
      rw [show ((n : Int) - 1).toNat = n - 1 by omega, tab_congr (g := laterF n f) fun i hi => laterS_end hi] at h1
      refine ⟨_, rfl, l, _, rfl, .inl ⟨SqL.of h1, fun p hp => ?_⟩⟩
      have b2 : But l H _ := b1.trans (But.of (same_upd (o := .tup (tab n (laterF n f))) hp))
      refine q p _ (fun b o e => b2 b o (ne_of_none e hl) e) ?_ upd_same
      cases h : H p with
      | none => rfl
      | some o =>
        have := b1 p o (ne_of_none h hl) h
        rw [hp] at this; cases this
end
end My

namespace My
open PySem PySem.Spec PyProof.Rows L2
def GRow.word (w : GRow) : Str := if w.up = true then (if w.r = true then "<=" else "<") else (if w.r = true then ">=" else ">")
/-- a guard: a tuple of rows -/
def GuardAt (H : Hp) (g : Addr) (ps : List (Addr × GRow)) : Prop := H g = some (.tup (ps.map fun p => V.ref p.1)) ∧ ∀ p ∈ ps, H p.1 = some (.tup [.int (p.2.k : Int), .str p.2.word, .int p.2.num])
theorem GuardAt.same {H H' : Hp} {g : Addr} {ps : List (Addr × GRow)} (h : GuardAt H g ps) (s : Same H H') : GuardAt H' g ps := ⟨s _ _ h.1, fun p hp => s _ _ (h.2 p hp)⟩
def guardsF (n : Nat) (f : Nat → Int) (ws : List GRow) : Nat → Int := ws.foldl (guard1 n) f
/-- guarded(zone, clocks, guard) -/
def spGuarded : Sp := fun vs H Q _ => ∃ (a c g : Addr) (n : Nat) (f : Nat → Int) (ps : List (Addr × GRow)), vs = [.ref a, .ref c, .ref g] ∧ H a = some (.tup (tab n f)) ∧ H c = some (.lst (rgV 0 ((n : Int) - 1))) ∧ GuardAt H g ps ∧ 2 ≤ n ∧ n ≤ 4 ∧ BdN (n * n) 25 f ∧
  (∀ p ∈ ps, p.2.okFor n) ∧
  ((∃ i, i < n ∧ fwF n n (guardsF n f (ps.map (·.2))) (i * n + i) < 1) → ∀ H', Same H H' → Q .non H') ∧
  ((∀ i, i < n → 1 ≤ fwF n n (guardsF n f (ps.map (·.2))) (i * n + i)) → ∀ a H', Same H H' → H a = none → H' a = some (.tup (tab n (fwF n n (guardsF n f (ps.map (·.2)))))) → Q (.ref a) H')
/-- set_back(zone, clocks, resets) -/
def spSetB : Sp := fun vs H Q _ => ∃ (a c g : Addr) (n : Nat) (f : Nat → Int) (ks : List Nat), vs = [.ref a, .ref c, .ref g] ∧ H a = some (.tup (tab n f)) ∧ H c = some (.lst (rgV 0 ((n : Int) - 1))) ∧ H g = some (.tup (ks.map fun (k : Nat) => V.int (k : Int))) ∧ 2 ≤ n ∧ n ≤ 4 ∧
  (∀ i, i < n → f (i * n + i) = 1) ∧ (∀ k ∈ ks, k + 1 < n) ∧ ∀ p H', Same H H' → H p = none → H' p = some (.tup (tab n (ks.foldl (fun f k => setF n (1 + k) f) f))) → Q (.ref p) H'
theorem rg_index {m : Int} {k : Nat} (h : (k : Int) < m) : (rgV 0 m)[k]? = some (.int (k : Int)) := by
  unfold rgV
  rw [List.getElem?_map, List.getElem?_range (by omega)]
  show some (V.int (0 + (k : Int))) = _
  rw [Int.zero_add]
theorem rg_flat (m : Int) : (rgV 0 m).all flatV = true := by
  unfold rgV
  rw [List.all_eq_true]
  intro x hx
  obtain ⟨i, _, rfl⟩ := List.mem_map.mp hx
  rfl
theorem rg_ahead {m : Int} {k : Nat} : ∀ (j : Nat) (z : V), j < k → (rgV 0 m)[j]? = some z → eqV z (.int (k : Int)) = false := by
  intro j z hj h
  unfold rgV at h
  rw [List.getElem?_map] at h
  cases e : (List.range (m - 0).toNat)[j]? with
  | none => rw [e] at h; cases h
  | some i =>
    rw [e] at h
    obtain rfl := Option.some.inj h
    have := (List.getElem?_eq_some_iff.mp e)
    obtain ⟨h1, h2⟩ := this
    rw [List.getElem_range] at h2
    subst h2
    show ((0 + (j : Int)) == (k : Int)) = false
    rw [beq_eq_false_iff_ne]; omega
theorem eqV_int (k : Int) : eqV (.int k) (.int k) = true := by
  show (k == k) = true
  exact beq_self_eq_true k
theorem word_in (w : GRow) : inV (.str w.word) (upperW.map V.str) = w.up := by
  obtain ⟨k, u, r, n⟩ := w
  cases u <;> cases r <;> rfl
theorem word_len (w : GRow) : decide (V.int ((w.word.length : Nat) : Int) = V.int 2) = w.r := by
  obtain ⟨k, u, r, n⟩ := w
  cases u <;> cases r <;> rfl
theorem word_sz (w : GRow) : w.word.length ≤ sizeLine := by
  have h : ∀ s ∈ (["<=", "<", ">=", ">"] : List Str), s.length ≤ sizeLine := by rw [sizeLine_eq]; decide
  refine h _ ?_
  unfold GRow.word
  split <;> split <;> simp
theorem min_if (i j : Int) : (if j < i then j else i) = min i j := by omega
theorem upper_flat : (upperW.map V.str).all flatV = true := rfl
theorem BdN.guard {n e : Nat} {f : Nat → Int} {w : GRow} (h : BdN (n * n) e f) (he : 5 ≤ e) (ok : w.okFor n) : BdN (n * n) e (guard1 n f w) := by
  obtain ⟨o1, o2, o3⟩ := ok
  have rr := rho_01 w
  have l5 : (32 : Nat) ≤ 2 ^ e := by
    have := Nat.pow_le_pow_right (n := 2) (by decide) he
    omega
  have sm : ∀ (x v : Int), x.natAbs < 2 ^ e → v.natAbs < 32 → (min x v).natAbs < 2 ^ e := fun x v a b => by omega
  intro i hi
  unfold guard1
  split
  · by_cases z : i = (1 + w.k) * n + 0
    · rw [z, upF_same]; exact sm _ _ (h _ (z ▸ hi)) (by omega)
    · rw [upF_ne z]; exact h i hi
  · by_cases z : i = 0 * n + (1 + w.k)
    · rw [z, upF_same]; exact sm _ _ (h _ (z ▸ hi)) (by omega)
    · rw [upF_ne z]; exact h i hi
theorem BdN.guards {n e : Nat} : ∀ {ws : List GRow} {f : Nat → Int}, BdN (n * n) (e + 5) f → (∀ w ∈ ws, w.okFor n) → BdN (n * n) (e + 5) (guardsF n f ws)
  | [], _, h, _ => h
  | w :: ws, f, h, ok => BdN.guards (ws := ws) (f := guard1 n f w) (h.guard (by omega) (ok w List.mem_cons_self)) fun v hv => ok v (List.mem_cons_of_mem _ hv)
/-! ### set back, place by place -/
def setS (n a : Nat) (f : Nat → Int) (j : Nat) : Nat → Int := fun x => if x / n = a ∧ x % n ≠ a ∧ x % n < j then f (0 * n + x % n) else if x % n = a ∧ x / n ≠ a ∧ x / n < j then f (x / n * n + 0) else f x
theorem setS_at {n a j r c : Nat} {f : Nat → Int} (hc : c < n) : setS n a f j (r * n + c) = if r = a ∧ c ≠ a ∧ c < j then f (0 * n + c) else if c = a ∧ r ≠ a ∧ r < j then f (r * n + 0) else f (r * n + c) := by
  unfold setS
  rw [(ix_div hc).1, (ix_div hc).2]
theorem ix_of (n x : Nat) (hn : 0 < n) : ∃ r c, c < n ∧ x = r * n + c := ⟨x / n, x % n, Nat.mod_lt _ hn, by
  have := Nat.div_add_mod x n
  rw [Nat.mul_comm] at this
  exact this.symm⟩
theorem setS_0 {n a : Nat} {f : Nat → Int} (hn : 0 < n) : setS n a f 0 = f := by
  funext x
  obtain ⟨r, c, hc, rfl⟩ := ix_of n x hn
  rw [setS_at hc, if_neg (by omega), if_neg (by omega)]
theorem setS_self {n a : Nat} {f : Nat → Int} (hn : 0 < n) : setS n a f (a + 1) = setS n a f a := by
  funext x
  obtain ⟨r, c, hc, rfl⟩ := ix_of n x hn
  rw [setS_at hc, setS_at hc]
  by_cases p : r = a ∧ c ≠ a ∧ c < a
  · rw [if_pos p, if_pos ⟨p.1, p.2.1, by omega⟩]
  · rw [if_neg p, if_neg (by omega)]
    by_cases q : c = a ∧ r ≠ a ∧ r < a
    · rw [if_pos q, if_pos ⟨q.1, q.2.1, by omega⟩]
    · rw [if_neg q, if_neg (by omega)]
theorem setS_row {n a j : Nat} {f : Nat → Int} (hj : j < n) (ha : 0 < a) (hja : j ≠ a) : setS n a f j (0 * n + j) = f (0 * n + j) := by
  rw [setS_at hj, if_neg (by omega), if_neg (by omega)]
theorem setS_col {n a j : Nat} {f : Nat → Int} (hn : 0 < n) (ha : 0 < a) (hja : j ≠ a) : setS n a f j (j * n + 0) = f (j * n + 0) := by
  rw [setS_at hn, if_neg (by omega), if_neg (by omega)]
theorem setS_step {n a j : Nat} {f : Nat → Int} (hn : 0 < n) (hj : j < n) (haa : a < n) (hja : j ≠ a) : upF (upF (setS n a f j) (a * n + j) (f (0 * n + j))) (j * n + a) (f (j * n + 0)) = setS n a f (j + 1) := by
  funext x
  obtain ⟨r, c, hc, rfl⟩ := ix_of n x hn
  rw [setS_at hc]
  by_cases e : r = j ∧ c = a
  · obtain ⟨rfl, rfl⟩ := e
    rw [upF_same, if_neg (by omega), if_pos ⟨rfl, hja, by omega⟩]
  · rw [upF_ne (fun z => e (ix_inj hc haa z))]
    by_cases e2 : r = a ∧ c = j
    · obtain ⟨rfl, rfl⟩ := e2
      rw [upF_same, if_pos ⟨rfl, hja, by omega⟩]
    · rw [upF_ne (fun z => e2 (ix_inj hc hj z)), setS_at hc]
      by_cases p : r = a ∧ c ≠ a ∧ c < j
      · rw [if_pos p, if_pos ⟨p.1, p.2.1, by omega⟩]
      · have p2 : ¬ (r = a ∧ c ≠ a ∧ c < j + 1) := by omega
        rw [if_neg p, if_neg p2]
        by_cases q : c = a ∧ r ≠ a ∧ r < j
        · rw [if_pos q, if_pos ⟨q.1, q.2.1, by omega⟩]
        · have q2 : ¬ (c = a ∧ r ≠ a ∧ r < j + 1) := by omega
          rw [if_neg q, if_neg q2]
theorem setS_end {n a : Nat} {f : Nat → Int} (hn : 2 ≤ n) (ha : 0 < a) (han : a < n) (dg : ∀ i, i < n → f (i * n + i) = 1) {x : Nat} (hx : x < n * n) : setS n a f n x = setF n a f x := by
  obtain ⟨r, c, hc, rfl⟩ := ix_of n x (by omega)
  have hr : r < n := by
    refine Nat.lt_of_not_le fun z => ?_
    have : n * n ≤ r * n := Nat.mul_le_mul_right n z
    omega
  rw [setS_at hc, set_at hc]
  unfold led
  by_cases p : r = a
  · by_cases q : c = a
    · rw [if_neg (by omega), if_neg (by omega), if_pos p, if_pos q, p, q, dg a han, dg 0 (by omega)]
    · rw [if_pos ⟨p, q, hc⟩, if_pos p, if_neg q]
  · by_cases q : c = a
    · rw [if_neg (by omega), if_pos ⟨q, p, hr⟩, if_neg p, if_pos q]
    · rw [if_neg (by omega), if_neg (by omega), if_neg p, if_neg q]
theorem setF_diag {n a : Nat} {f : Nat → Int} (hn : 2 ≤ n) (dg : ∀ i, i < n → f (i * n + i) = 1) : ∀ i, i < n → setF n a f (i * n + i) = 1 := fun i hi => by
  rw [set_at hi]; exact dg _ (led_lt hn hi)
theorem setFs_diag {n : Nat} (hn : 2 ≤ n) : ∀ (ks : List Nat) (f : Nat → Int), (∀ i, i < n → f (i * n + i) = 1) → ∀ i, i < n → (ks.foldl (fun f k => setF n (1 + k) f) f) (i * n + i) = 1
  | [], _, h => h
  | k :: ks, f, h => setFs_diag hn ks _ (setF_diag hn h)
section
variable {P : Program} {w : World} {K : PySem.W.Frag} {mg : Str → Option Value} {base : Heap} {A : Nat → Addr} {D : Nat → FuncData}
theorem ok_guarded (T : Txt K mg A D) : FnG P w K mg base CX0 3 (A 10) (D 10) ["zone", "clocks", "guard"] spGuarded := by
  have G_side_of := ok_side (P := P) (w := w) (base := base) T
  have G_bound_of := ok_bound (P := P) (w := w) (base := base) T
  have G_tight := ok_tight (P := P) (w := w) (base := base) T
  refine def_ok0 T.F_guarded sc_guarded (fun vs H Q E h => ?_) (fun cdv Ar outer s H vs Q E hr hG h => ?_)
  · obtain ⟨a, c, g, n, f, ps, rfl, _⟩ := h; rfl
  · obtain ⟨a, c, g, n, f, ps, rfl, ha, hc, hg, n2, n4, bd, okp, qn, qy⟩ := h
    refine ⟨_, (pss_cons (ps_par (i := 3) (j := 4) (by rfl) sc_guarded.nd rfl rfl (by decide) rfl rfl (pa_cons (pe_cg G_side_of (hr.mono (by first | decide | omega)) hG (by rfl) T.g_side_of T.F_side_of.kp T.b_side_of pass0 (pa_cons (pv 0) pa_nil)) (pa_cons (pe_callTy call_list_of (by rfl) T.n_list (by decide +kernel) (pa_cons (pv 0) pa_nil)) pa_nil)) (by rfl))
      (pss_cons (ps_for (by first | exact PassesOwn.never | exact PassesOwn.leaving | exact L2.passes_of rfl) rfl (pi_tup (pv 2)) (pg_tup rfl (pgs_cons (pg_name (i := 5) sc_guarded.nd rfl (Or.inl rfl)) (pgs_cons (pg_name (i := 6) sc_guarded.nd rfl (Or.inl rfl)) (pgs_cons (pg_name (i := 7) sc_guarded.nd rfl (Or.inl rfl)) pgs_nil)))) (pss_cons (ps_set (i := 8) sc_guarded.nd rfl (Or.inl rfl) (pe_op op_add pe_int (pe_bm PySem.F.plainAttrs_list PySem.F.slot_list_index PySem.F.type_list_index mt_index (pv 1) (pa_cons (pv 5) pa_nil))))
      (pss_cons (ps_set (i := 9) sc_guarded.nd rfl (Or.inl rfl) (pe_cmpR op_eq (pe_callB call_len_str (by rfl) T.n_len PySem.boot_len (pa_cons (pv 6) pa_nil)) pe_int (nomark _)))
      (pss_cons (ps_asg (pe_ifExp (pt_cmpR op_in_seq (pv 6) (pe_gl T.c_UPPER) (by rfl)) (pe_tup (pa_cons (pe_op op_mulW (pv 8) (pv 3)) (pa_cons (pv 7) pa_nil))) (pe_tup (pa_cons (pv 8) (pa_cons (pe_op op_sub pe_int (pv 7)) pa_nil)))) (pg_tup rfl (pgs_cons (pg_name (i := 10) sc_guarded.nd rfl (Or.inl rfl)) (pgs_cons (pg_name (i := 11) sc_guarded.nd rfl (Or.inl rfl)) pgs_nil))))
      (pss_one (ps_asg (pe_callB (call_min2 rfl) (by rfl) T.n_min (by decide +kernel) (pa_cons (pe_ix ix_list (pv 4) (pv 10) (fun _ _ => rfl)) (pa_cons (pe_cg G_bound_of (hr.mono (by first | decide | omega)) hG (by rfl) T.g_bound_of T.F_bound_of.kp T.b_bound_of pass0 (pa_cons (pv 11) (pa_cons (pv 9) pa_nil))) pa_nil))) (pg_sub (pv 4) (pv 10) set_list)))))))
      (pss_one (ps_ret (pe_cg G_tight (hr.mono (by first | decide | omega)) hG (by rfl) T.g_tight T.F_tight.kp T.b_tight pass0 (pa_cons (pv 4) (pa_cons (pv 3) pa_nil))))))), ?_⟩
    have tl : (tab n f).length = n * n := tab_len n f
    refine ⟨_, rfl, a, tab n f, n, rfl, ha, tl, by omega, by omega, _, rfl, a, _, rfl, .inr (SqT.of ha), fun l hl => ?_⟩
    have s1 := same_upd (o := .lst (tab n f)) hl
    refine ⟨_, _, rfl, _, rfl, g, rfl, ⟨_, SqT.of (s1 _ _ hg.1)⟩, for_tup (K := K) (a := g) (xs := ps.map fun p => V.ref p.1) (fun i σ H' => ∃ u5 u6 u7 u8 u9 u10 u11, σ = [some (.ref a), some (.ref c), some (.ref g), some (.int n), some (.ref l), u5, u6, u7, u8, u9, u10, u11] ∧ H' l = some (.lst (tab n (guardsF n f ((ps.take i).map (·.2))))) ∧ But l H H') ⟨none, none, none, none, none, none, none, rfl, upd_same, But.of s1⟩ (fun i σ H' _ ⟨_, _, _, _, _, _, _, _, _, b⟩ => SqT.of (b g _ (ne_of_none hg.1 hl) hg.1)) ?_ ?_⟩
    · rintro i y σ H1 hy ⟨u5, u6, u7, u8, u9, u10, u11, rfl, h1, b1⟩
      obtain ⟨⟨r, w⟩, hpi, rfl⟩ : ∃ p, ps[i]? = some p ∧ y = V.ref p.1 := by
        rw [List.getElem?_map] at hy
        cases e : ps[i]? with
        | none => rw [e] at hy; cases hy
        | some z => rw [e] at hy; exact ⟨z, rfl, (Option.some.inj hy).symm⟩
      have mem := List.mem_of_getElem? hpi
      have hr0 := hg.2 _ mem
      have hrow := b1 _ _ (ne_of_none hr0 hl) hr0
      obtain ⟨o1, o2, o3⟩ := okp _ mem
      have hc1 := b1 _ _ (ne_of_none hc hl) hc
      have en : guardsF n f ((ps.take (i + 1)).map (·.2)) = guard1 n (guardsF n f ((ps.take i).map (·.2))) w := by
        rw [take_step1 hpi, List.map_append]
        unfold guardsF
        rw [List.foldl_append]; rfl
      obtain ⟨e, he⟩ : ∃ e, e = guardsF n f ((ps.take i).map (·.2)) := ⟨_, rfl⟩
      rw [en]
      rw [← he] at h1 ⊢
      clear he en
      dsimp only at o1 o2 o3 hrow hr0
      refine ⟨r, _, rfl, SqT.of hrow, rfl, _, _, rfl, _, _, rfl, _, _, rfl, rfl, ?_⟩
      refine ⟨_, rfl, .inl ⟨rfl, _, SqL.of hc1⟩, _, rfl, c, _, _, w.k, .int (w.k : Int), rfl, rfl, SqL.of hc1, rfl, rg_flat _, rg_index (by omega), eqV_int _, rg_ahead, _, _, rfl, rfl, ?_⟩
      refine ⟨_, rfl, _, rfl, word_sz w, rfl, ?_⟩
      have hb : ∀ z : Int, z.natAbs ≤ 12 → z.natAbs < 2 ^ 60 := fun z h => by omega
      refine ⟨_, rfl, _, _, rfl, .inr (T.t_UPPER _), rfl, upper_flat, _, rfl, ite2 (fun e2 => ?_) (fun e2 => ?_)⟩
      · have hu : w.up = true := (word_in w).symm.trans e2
        refine ⟨_, rfl, _, rfl, _, _, rfl, rfl, wide_mul (a := 20) (b := 20) (by omega) (by omega) (by decide) (by decide) (by decide), _, rfl, (by show 2 ≤ sizeLine; decide), fun t ht => ?_⟩
        have st := fun o => same_upd (o := o) ht
        refine ⟨t, _, rfl, SqT.of upd_same, rfl, _, _, rfl, _, _, rfl, rfl, ?_⟩
        have ix : (1 + (w.k : Int)) * (n : Int) = (((1 + w.k) * n + 0 : Nat) : Int) := by rw [Nat.add_zero, Int.natCast_mul]; rfl
        have lt : (1 + w.k) * n + 0 < n * n := ix_lt (by omega) (by omega)
        refine ⟨_, rfl, _, rfl, l, _, _, _, rfl, rfl, SqL.of (st _ _ _ h1), tab_at lt ix, _, rfl, _, rfl, _, _, rfl, hb _ (by omega), _, _, rfl, ?_⟩
        refine ⟨_, rfl, _, rfl, l, _, _, _, rfl, rfl, st _ _ _ h1, ixN_nat (by rw [tab_len]; exact lt) ix, ?_⟩
        refine ⟨_, _, _, _, _, _, _, rfl, ?_, (b1.trans (But.of (st _))).trans But.upd⟩
        rw [upd_same, min_if, word_len, tab_set]
        unfold guard1
        rw [if_pos hu]; rfl
      · have hu : ¬ w.up = true := fun z => e2 ((word_in w).trans z)
        refine ⟨_, rfl, _, rfl, _, _, rfl, rfl, (by show 2 ≤ sizeLine; decide), fun t ht => ?_⟩
        have st := fun o => same_upd (o := o) ht
        refine ⟨t, _, rfl, SqT.of upd_same, rfl, _, _, rfl, _, _, rfl, rfl, ?_⟩
        have ix : (1 + (w.k : Int)) = ((0 * n + (1 + w.k) : Nat) : Int) := by rw [Nat.zero_mul, Nat.zero_add]; rfl
        have lt : 0 * n + (1 + w.k) < n * n := ix_lt (by omega) (by omega)
        refine ⟨_, rfl, _, rfl, l, _, _, _, rfl, rfl, SqL.of (st _ _ _ h1), tab_at lt ix, _, rfl, _, rfl, _, _, rfl, hb _ (by omega), _, _, rfl, ?_⟩
        refine ⟨_, rfl, _, rfl, l, _, _, _, rfl, rfl, st _ _ _ h1, ixN_nat (by rw [tab_len]; exact lt) ix, ?_⟩
        refine ⟨_, _, _, _, _, _, _, rfl, ?_, (b1.trans (But.of (st _))).trans But.upd⟩
        rw [upd_same, min_if, word_len, tab_set]
        unfold guard1
        rw [if_neg hu]; rfl
    · rintro σ H1 ⟨u5, u6, u7, u8, u9, u10, u11, rfl, h1, b1⟩
      rw [List.length_map, List.take_length] at h1
      have bg := BdN.guards (ws := ps.map (·.2)) bd (fun w hw => by
        obtain ⟨p, hp, rfl⟩ := List.mem_map.mp hw
        exact okp p hp)
      have sm : ∀ {H' : Hp}, But l H1 H' → Same H H' := fun b2 b o e => b2 b o (ne_of_none e hl) (b1 b o (ne_of_none e hl) e)
      refine ⟨_, rfl, _, rfl, l, n, _, rfl, h1, n4, bg, fun z H2 b2 => qn z H2 (sm b2), fun z a2 H2 b2 na ne e2 => qy z a2 H2 (sm b2) ?_ e2⟩
      cases h : H a2 with
      | none => rfl
      | some o =>
        have := b1 a2 o ne h
        rw [na] at this; cases this
theorem ok_setb (T : Txt K mg A D) : FnG P w K mg base CX0 2 (A 11) (D 11) ["zone", "clocks", "resets"] spSetB := by
  have G_side_of := ok_side (P := P) (w := w) (base := base) T
  refine def_ok0 T.F_set_back sc_set_back (fun vs H Q E h => ?_) (fun cdv Ar outer s H vs Q E hr hG h => ?_)
  · obtain ⟨a, c, g, n, f, ks, rfl, _⟩ := h; rfl
  · obtain ⟨a, c, g, n, f, ks, rfl, ha, hc, hg, n2, n4, dg, okk, q⟩ := h
    refine ⟨_, (pss_cons (ps_par (i := 3) (j := 4) (by rfl) sc_set_back.nd rfl rfl (by decide) rfl rfl (pa_cons (pe_cg G_side_of (hr.mono (by first | decide | omega)) hG (by rfl) T.g_side_of T.F_side_of.kp T.b_side_of pass0 (pa_cons (pv 0) pa_nil)) (pa_cons (pe_callTy call_list_of (by rfl) T.n_list (by decide +kernel) (pa_cons (pv 0) pa_nil)) pa_nil)) (by rfl))
      (pss_cons (ps_for (by first | exact PassesOwn.never | exact PassesOwn.leaving | exact L2.passes_of rfl) rfl (pi_tup (pv 2)) (pg_name (i := 5) sc_set_back.nd rfl (Or.inl rfl)) (pss_cons (ps_set (i := 6) sc_set_back.nd rfl (Or.inl rfl) (pe_op op_add pe_int (pe_bm PySem.F.plainAttrs_list PySem.F.slot_list_index PySem.F.type_list_index mt_index (pv 1) (pa_cons (pv 5) pa_nil))))
      (pss_one (ps_for (by first | exact PassesOwn.never | exact PassesOwn.leaving | exact L2.passes_of rfl) rfl (pi_range1 rfl T.n_range (pa_cons (pv 3) pa_nil)) (pg_name (i := 7) sc_set_back.nd rfl (Or.inl rfl)) (pss_one (ps_if (pt_cmpR op_ne (pv 7) (pv 6) (nomark _)) (pss_cons (ps_asg (pe_ix ix_list (pv 4) (pv 7) (fun _ _ => rfl)) (pg_sub (pv 4) (pe_op op_add (pe_op op_mulW (pv 6) (pv 3)) (pv 7)) set_list))
      (pss_one (ps_asg (pe_ix ix_list (pv 4) (pe_op op_mulW (pv 7) (pv 3)) (fun _ _ => rfl)) (pg_sub (pv 4) (pe_op op_add (pe_op op_mulW (pv 7) (pv 3)) (pv 6)) set_list)))) pss_nil))))))
      (pss_one (ps_ret (pe_callTy call_tuple_of (by rfl) T.n_tuple (by decide +kernel) (pa_cons (pv 4) pa_nil)))))), ?_⟩
    have tl : (tab n f).length = n * n := tab_len n f
    refine ⟨_, rfl, a, tab n f, n, rfl, ha, tl, by omega, by omega, _, rfl, a, _, rfl, .inr (SqT.of ha), fun l hl => ?_⟩
    have s1 := same_upd (o := .lst (tab n f)) hl
    have fin : ∀ {H' : Hp}, But l H H' → Same H H' := fun b2 b o e => b2 b o (ne_of_none e hl) e
    refine ⟨_, _, rfl, _, rfl, g, rfl, ⟨_, SqT.of (s1 _ _ hg)⟩, for_tup (K := K) (a := g) (xs := ks.map fun (k : Nat) => V.int (k : Int)) (fun i σ H' => ∃ u5 u6 u7, σ = [some (.ref a), some (.ref c), some (.ref g), some (.int n), some (.ref l), u5, u6, u7] ∧ H' l = some (.lst (tab n ((ks.take i).foldl (fun f k => setF n (1 + k) f) f))) ∧ But l H H') ⟨none, none, none, rfl, upd_same, But.of s1⟩ (fun i σ H' _ ⟨_, _, _, _, _, b⟩ => SqT.of (fin b _ _ hg)) ?_ ?_⟩
    · rintro i y σ H1 hy ⟨u5, u6, u7, rfl, h1, b1⟩
      obtain ⟨k, hk, rfl⟩ : ∃ k, ks[i]? = some k ∧ y = V.int ((k : Nat) : Int) := by
        rw [List.getElem?_map] at hy
        cases e : ks[i]? with
        | none => rw [e] at hy; cases hy
        | some z => rw [e] at hy; exact ⟨z, rfl, (Option.some.inj hy).symm⟩
      have hk1 := okk k (List.mem_of_getElem? hk)
      have hc1 := fin b1 _ _ hc
      have en : ((ks.take (i + 1)).foldl (fun f k => setF n (1 + k) f) f) = setF n (1 + k) ((ks.take i).foldl (fun f k => setF n (1 + k) f) f) := by
        rw [take_step1 hk, List.foldl_append]; rfl
      obtain ⟨e, he⟩ : ∃ e, e = (ks.take i).foldl (fun f k => setF n (1 + k) f) f := ⟨_, rfl⟩
      have de : ∀ i, i < n → e (i * n + i) = 1 := by rw [he]; exact setFs_diag n2 _ _ dg
      rw [en]
      rw [← he] at h1 ⊢
      clear he en
      refine ⟨_, rfl, .inl ⟨rfl, _, SqL.of hc1⟩, _, rfl, c, _, _, k, .int (k : Int), rfl, rfl, SqL.of hc1, rfl, rg_flat _, rg_index (by omega), eqV_int _, rg_ahead, _, _, rfl, rfl, ?_⟩
      refine ⟨_, rfl, _, rfl, by omega, by omega, for_range (fun j σ H' => ∃ u7, σ = [some (.ref a), some (.ref c), some (.ref g), some (.int n), some (.ref l), some (.int (k : Int)), some (.int (1 + (k : Int))), u7] ∧ H' l = some (.lst (tab n (setS n (1 + k) e j))) ∧ But l H H') ⟨_, rfl, by rw [setS_0 (by omega)]; exact h1, b1⟩ ?_ ?_⟩
      · rintro j σ H2 hj ⟨u7, rfl, h2, b2⟩
        rw [Int.toNat_natCast] at hj
        refine ⟨_, rfl, _, rfl, rfl, _, rfl, ite2 (fun e2 => ?_) (fun e2 => ?_)⟩
        · have hja : j ≠ 1 + k := by
            rintro rfl
            rw [show V.int (0 + ((1 + k : Nat) : Int)) = V.int (1 + (k : Int)) by congr 1; omega] at e2
            exact ne_self _ e2
          have ja : (1 + (k : Int)) = ((1 + k : Nat) : Int) := by omega
          have jb : (0 + (j : Int)) = ((0 * n + j : Nat) : Int) := by rw [Nat.zero_mul]; omega
          have z0 : 0 * n + j < n * n := ix_lt (by omega) hj
          have z1 : (1 + k) * n + j < n * n := ix_lt (by omega) hj
          have z2 : j * n + 0 < n * n := ix_lt hj (by omega)
          have z3 : j * n + (1 + k) < n * n := ix_lt hj (by omega)
          have m1 : CMulW (1 + (k : Int)) (n : Int) := wide_mul (a := 20) (b := 20) (by omega) (by omega) (by decide) (by decide) (by decide)
          have i1 : (1 + (k : Int)) * (n : Int) + (0 + (j : Int)) = (((1 + k) * n + j : Nat) : Int) := by rw [Int.zero_add, ja]; exact ixI
          have i2 : (0 + (j : Int)) * (n : Int) = ((j * n + 0 : Nat) : Int) := by rw [Int.zero_add, Nat.add_zero, Int.natCast_mul]
          have i3 : (0 + (j : Int)) * (n : Int) + (1 + (k : Int)) = ((j * n + (1 + k) : Nat) : Int) := by rw [Int.zero_add, ja]; exact ixI
          refine ⟨_, rfl, _, rfl, l, _, _, _, rfl, rfl, SqL.of h2, tab_at z0 jb, _, rfl, _, rfl, _, rfl, _, _, rfl, rfl, m1, _, rfl, _, _, rfl, rfl, l, _, _, _, rfl, rfl, h2, ixN_nat (by rw [tab_len]; exact z1) i1, ?_⟩
          rw [tab_set, setS_row hj (by omega) hja]
          have h3 := upd_same (H := H2) (a := l) (o := .lst (tab n (upF (setS n (1 + k) e j) ((1 + k) * n + j) (e (0 * n + j)))))
          refine ⟨_, rfl, _, rfl, _, rfl, _, _, rfl, rfl, mulI hj n4, l, _, _, _, rfl, rfl, SqL.of h3, tab_at z2 i2, ?_⟩
          refine ⟨_, rfl, _, rfl, _, rfl, _, _, rfl, rfl, mulI hj n4, _, rfl, _, _, rfl, rfl, l, _, _, _, rfl, rfl, h3, ixN_nat (by rw [tab_len]; exact z3) i3, ?_⟩
          refine ⟨_, rfl, ?_, (b2.trans But.upd).trans But.upd⟩
          rw [upd_same, tab_set, upF_ne (i := (1 + k) * n + j) (fun z => by have := (ix_inj (by omega) hj z).1; omega), setS_col (by omega) (by omega) hja, setS_step (by omega) hj (by omega) hja]
        · have hja : j = 1 + k := by
            refine Nat.le_antisymm (Nat.le_of_not_lt fun z => e2 ?_) (Nat.le_of_not_lt fun z => e2 ?_) <;>
            · have : V.int (0 + (j : Int)) ≠ V.int (1 + (k : Int)) := fun y => by have := V.int.inj y; omega
              show (!decide (V.int (0 + (j : Int)) = V.int (1 + (k : Int)))) = true
              rw [decide_eq_false this]; rfl
          subst hja
          refine ⟨_, rfl, ?_, b2⟩
          rw [setS_self (by omega)]; exact h2
      · rintro σ H2 ⟨u7, rfl, h2, b2⟩
        rw [Int.toNat_natCast, tab_congr fun x hx => setS_end n2 (by omega) (by omega) de hx] at h2
        exact ⟨_, _, _, rfl, h2, b2⟩
    · rintro σ H1 ⟨u5, u6, u7, rfl, h1, b1⟩
      rw [List.length_map, List.take_length] at h1
      refine ⟨_, rfl, l, _, rfl, .inl ⟨SqL.of h1, fun p hp => ?_⟩⟩
      refine q p _ (fin (b1.trans (But.of (same_upd hp)))) ?_ upd_same
      cases h : H p with
      | none => rfl
      | some o =>
        have := b1 p o (ne_of_none h hl) h
        rw [hp] at this; cases this
end
end My

namespace My
open PySem PySem.Spec PyProof.Rows L2 TL
/-! ### tuples of whole numbers -/
theorem text_nat (n : Nat) : (toString ((n : Nat) : Int) : Str).cps.toList = numL n := tl_num n
theorem text_neg (n : Nat) : (toString (-((n + 1 : Nat) : Int)) : Str).cps.toList = 45 :: numL (n + 1) := by
  have e := PyProof.Rows.toString_neg (n := -((n + 1 : Nat) : Int)) (by omega)
  rw [e, show (0 - -((n + 1 : Nat) : Int)) = ((n + 1 : Nat) : Int) by omega]
  show tl (Str.ofString ("-" ++ toString ((n + 1 : Nat) : Int))) = _
  rw [tl_ofString, String.toList_append, List.map_append, ← tl_ofString (toString ((n + 1 : Nat) : Int)), tl_num]; rfl
theorem int_len {i : Int} (h : i.natAbs < 10 ^ 10) : (toString i : Str).length ≤ 11 := by
  have e : ∀ s : Str, s.length = s.cps.toList.length := fun s => (Array.length_toList).symm
  obtain ⟨n, rfl | rfl⟩ : ∃ n : Nat, i = (n : Int) ∨ i = -((n + 1 : Nat) : Int) := by
    rcases Int.lt_or_le i 0 with z | z
    · exact ⟨i.natAbs - 1, .inr (by omega)⟩
    · exact ⟨i.natAbs, .inl (by omega)⟩
  · rw [e, text_nat]
    have := numL_len (n := n) (k := 10) (by decide) (by omega)
    omega
  · rw [e, text_neg, List.length_cons]
    have := numL_len (n := n + 1) (k := 10) (by decide) (by omega)
    omega
theorem int_show {z : Int} (h : z.natAbs < 10 ^ 10) : z.natAbs.log2 < 1920 := by
  have : (10 : Nat) ^ 10 < 2 ^ 1000 := by decide +kernel
  have := PySem.Flt.log2_lt_of (show 0 < 1000 by decide) (Nat.lt_trans h this)
  omega
def dI (zs : List Int) : List PyData := zs.map PyData.int
theorem td_ints {H : Hp} : ∀ zs : List Int, TDs H (zs.map V.int) (dI zs)
  | [] => .nil
  | z :: zs => .cons (.int z) (td_ints zs)
theorem eqv_ints : ∀ zs ws : List Int, PyData.eqvAll (dI zs) (dI ws) = decide (zs = ws)
  | [], [] => by simp [dI, PyData.eqvAll]
  | [], w :: ws => by simp [dI, PyData.eqvAll]
  | z :: zs, [] => by simp [dI, PyData.eqvAll]
  | z :: zs, w :: ws => by
    have ih := eqv_ints zs ws
    unfold dI at ih ⊢
    rw [List.map_cons, List.map_cons, PyData.eqvAll, PyData.eqv, ih]
    by_cases a : z = w <;> by_cases b : zs = ws <;> simp [a, b]
theorem lay_ints : ∀ zs : List Int, PyData.canLayAll0 (dI zs) = true
  | [] => rfl
  | z :: zs => by
    have ih := lay_ints zs
    unfold dI at ih ⊢
    rw [List.map_cons, PyData.canLayAll0, ih]; rfl
theorem depth_ints : ∀ zs : List Int, PyData.depthAll (dI zs) = 0
  | [] => rfl
  | z :: zs => by
    have ih := depth_ints zs
    unfold dI at ih ⊢
    rw [List.map_cons, PyData.depthAll, ih]; rfl
theorem shaped_ints (zs : List Int) : SeqAt.shaped (.tuple (dI zs)) = true := by
  unfold SeqAt.shaped
  rw [PyData.canLay0, lay_ints]
  have : (PyData.tuple (dI zs)).depth ≤ 64 := by
    simp only [PyData.depth, depth_ints]; decide
  rw [decide_eq_true this]; rfl
theorem show_ints : ∀ zs : List Int, (∀ z ∈ zs, z.natAbs < 10 ^ 10) → PyData.showableAll (dI zs) = true ∧ PyData.hasDictAll (dI zs) = false
  | [], _ => ⟨rfl, rfl⟩
  | z :: zs, h => by
    obtain ⟨h1, h2⟩ := show_ints zs fun w hw => h w (List.mem_cons_of_mem _ hw)
    have h3 := int_show (h z List.mem_cons_self)
    unfold dI at h1 h2 ⊢
    rw [List.map_cons]
    exact ⟨by simp only [PyData.showableAll, PyData.showable, h1, decide_eq_true h3]; rfl, by simp only [PyData.hasDictAll, PyData.hasDict, h2]; rfl⟩
theorem sum_ints : ∀ zs : List Int, (∀ z ∈ zs, z.natAbs < 10 ^ 10) → ((PyData.shownAll (dI zs)).map (·.length)).sum ≤ 11 * zs.length ∧ (PyData.shownAll (dI zs)).length = zs.length
  | [], _ => ⟨Nat.le_refl _, rfl⟩
  | z :: zs, h => by
    obtain ⟨h1, h2⟩ := sum_ints zs fun w hw => h w (List.mem_cons_of_mem _ hw)
    have h3 := int_len (h z List.mem_cons_self)
    unfold dI at h1 h2 ⊢
    simp only [List.map_cons, PyData.shownAll, List.sum_cons, List.length_cons]
    have h4 : (PyData.int z).shown = (toString z : Str) := rfl
    rw [h4]
    omega
/-- repr of a tuple of whole numbers -/
theorem rep_ints {K : PySem.W.Frag} {H : Hp} {a : Addr} {zs : List Int} {Q : VK} (ha : H a = some (.tup (zs.map V.int))) (hl : zs.length ≤ 1000) (hz : ∀ z ∈ zs, z.natAbs < 10 ^ 10) (q : Q (.str (PyData.tuple (dI zs)).shown) H) : rRep K [.ref a] H Q := by
  obtain ⟨s1, s2⟩ := show_ints zs hz
  obtain ⟨s3, s4⟩ := sum_ints zs hz
  refine ⟨.ref a, .tuple (dI zs), rfl, (TD.tup ha (td_ints zs)).dp, by simp only [PyData.showable, s1], by simp only [PyData.hasDict, s2], by simp only [PyData.depth, depth_ints]; decide, ?_, (fun i z => by cases z), q⟩
  rw [sizeLine_eq, show (PyData.tuple (dI zs)).shown = tupleText (PyData.shownAll (dI zs)) by simp only [PyData.shown]]
  have := tupleText_len_le (PyData.shownAll (dI zs))
  omega
end My

namespace My
open PySem PySem.Spec PyProof.Rows L2
def toFn (xs : List V) (i : Nat) : Int := match xs[i]? with
  | some (.int z) => z
  | _ => 0
def zoneI (n : Nat) (f : Nat → Int) : Bool :=
  (List.range (n * n)).all (fun i => decide (f i = 1000000) || (decide (-200000 ≤ f i) && decide (f i ≤ 200000))) && (!((List.range n).any fun c => decide (f (0 * n + c) > 1)) && ((List.range n).all (fun r => decide (f (r * n + r) = 1)) &&
    ((List.range n).all (fun i => decide (1 ≤ fwF n n f (i * n + i))) && (List.range (n * n)).all fun i => decide (fwF n n f i = f i))))
def zoneB (n : Nat) (xs : List V) : Bool := decide (xs.length = n * n) && (xs.all isIntV && zoneI n (toFn xs))
inductive ZV (H : Hp) : V → Option (List V) → Prop
  | no {v : V} (h : NoTup H v) : ZV H v none
  | tup {a : Addr} {xs : List V} (h : H a = some (.tup xs)) (k : ∀ y ∈ xs, Known H y) (l : xs.length ≤ 1000) : ZV H (.ref a) (some xs)
theorem ZV.same {H H' : Hp} {v : V} {o : Option (List V)} (h : ZV H v o) (s : Same H H') : ZV H' v o := by
  cases h with
  | no h => exact .no (h.same s)
  | tup h k l => exact .tup (s _ _ h) (fun y hy => (k y hy).same s) l
def zoneO (n : Nat) : Option (List V) → Bool
  | some xs => zoneB n xs
  | none => false
theorem all_int {xs : List V} (h : xs.all isIntV = true) : ∃ zs : List Int, xs = zs.map V.int := by
  induction xs with
  | nil => exact ⟨[], rfl⟩
  | cons x xs ih =>
    rw [List.all_cons, Bool.and_eq_true] at h
    obtain ⟨zs, e⟩ := ih h.2
    cases x with
    | int z => exact ⟨z :: zs, by rw [e]; rfl⟩
    | _ => exact absurd h.1 (by simp [isIntV])
theorem ints_tab {n : Nat} {zs : List Int} (h : zs.length = n * n) : zs.map V.int = tab n (toFn (zs.map V.int)) := by
  apply List.ext_getElem?
  intro i
  by_cases hi : i < n * n
  · rw [tab_get hi, List.getElem?_map, List.getElem?_eq_getElem (by omega)]
    show some (V.int zs[i]) = some (V.int (toFn (zs.map V.int) i))
    congr 2
    unfold toFn
    rw [List.getElem?_map, List.getElem?_eq_getElem (by omega)]; rfl
  · rw [List.getElem?_eq_none (by rw [List.length_map]; omega), List.getElem?_eq_none (by rw [tab_len]; omega)]
def ilist (n : Nat) (f : Nat → Int) : List Int := (List.range (n * n)).map f
theorem tab_ints (n : Nat) (f : Nat → Int) : tab n f = (ilist n f).map V.int := by
  unfold tab ilist
  rw [List.map_map]; rfl
theorem td_tab {H : Hp} {a : Addr} {n : Nat} {f : Nat → Int} (h : H a = some (.tup (tab n f))) : TD H (.ref a) (.tuple (dI (ilist n f))) := .tup h (by rw [tab_ints]; exact td_ints _)
theorem ints_eq {n : Nat} {f g : Nat → Int} : decide (ilist n f = ilist n g) = (List.range (n * n)).all fun i => decide (f i = g i) := by
  unfold ilist
  rw [Bool.eq_iff_iff, List.all_eq_true, decide_eq_true_eq, List.map_inj_left]
  exact ⟨fun h i hi => decide_eq_true (h i hi), fun h i hi => of_decide_eq_true (h i hi)⟩
/-- is_zone_of(many, value) -/
def spZoneOf : Sp := fun vs H Q _ => ∃ (m : Nat) (v : V) (o : Option (List V)), vs = [.int (m : Int), v] ∧ 1 ≤ m ∧ m ≤ 3 ∧ ZV H v o ∧ ∀ H', Same H H' → Q (.bl (zoneO (m + 1) o)) H'
section
variable {P : Program} {w : World} {K : PySem.W.Frag} {mg : Str → Option Value} {base : Heap} {A : Nat → Addr} {D : Nat → FuncData}
theorem ok_zoneof (T : Txt K mg A D) : FnG P w K mg base CX0 3 (A 12) (D 12) ["many", "value"] spZoneOf := by
  have G_is_integer := ok_int (P := P) (w := w) (base := base) T
  have G_is_between := ok_between (P := P) (w := w) (base := base) T
  have G_tight := ok_tight (P := P) (w := w) (base := base) T
  refine def_ok0 T.F_is_zone_of sc_is_zone_of (fun vs H Q E h => ?_) (fun cdv Ar outer s H vs Q E hr hG h => ?_)
  · obtain ⟨m, v, o, rfl, _⟩ := h; rfl
  · obtain ⟨m, v, o, rfl, m1, m3, z, q⟩ := h
    refine ⟨_, (pss_cons (ps_set (i := 2) sc_is_zone_of.nd rfl (Or.inr rfl) (pe_op op_add (pv 0) pe_int))
      (pss_cons (ps_if (PW.pt (pw_or (pt_not (pt_val (pe_callB call_isi (by rfl) T.n_isinstance (by decide +kernel) (pa_cons (pv 1) (pa_cons (pe_bltn (v := .ty "tuple") (by rfl) T.n_tuple (by decide +kernel) rfl) pa_nil))))) (pw_or (pt_cmpR op_ne (pe_callB call_len_seq (by rfl) T.n_len PySem.boot_len (pa_cons (pv 1) pa_nil)) (pe_op op_mulW (pv 2) (pv 2)) (nomark _)) (pw_or1 (pt_not (pt_val (pe_callB (cr_all rfl) (by rfl) T.n_all (by decide +kernel) (pa_cons (pe_lc (own := [("bound", 3)]) (g := gName 3) (tt := tYes) (by rfl) sc_is_zone_of.nd (pi_tup (pv 1)) (blkOk_by (own := [("bound", 3)]) (N := ["many", "value", "size", "bound", "column", "at"]) (sc := defScope s_is_zone_of) (by decide +kernel)) (fun _ _ _ _ _ => pg_name (i := 3) sc_is_zone_of.nd rfl (by first | exact Or.inl rfl | exact Or.inr rfl | exact Or.inr (Or.inl rfl))) (fun _ _ _ _ _ => pts_nil) (fun _ _ _ _ _ => (pe_cg G_is_integer (hr.mono (by first | decide | omega)) hG (by rfl) T.g_is_integer T.F_is_integer.kp T.b_is_integer pass0 (pa_cons (pv 3) pa_nil)))) pa_nil)))))))) (pss_one (ps_ret pe_bl)) pss_nil)
      (pss_cons (ps_if (pt_not (pt_val (pe_callB (cr_all rfl) (by rfl) T.n_all (by decide +kernel) (pa_cons (pe_lc (own := [("bound", 3)]) (g := gName 3) (tt := tYes) (by rfl) sc_is_zone_of.nd (pi_tup (pv 1)) (blkOk_by (own := [("bound", 3)]) (N := ["many", "value", "size", "bound", "column", "at"]) (sc := defScope s_is_zone_of) (by decide +kernel)) (fun _ _ _ _ _ => pg_name (i := 3) sc_is_zone_of.nd rfl (by first | exact Or.inl rfl | exact Or.inr rfl | exact Or.inr (Or.inl rfl))) (fun _ _ _ _ _ => pts_nil) (fun _ _ _ _ _ => (pe_or (pe_cmpR op_eq (pv 3) (pe_gl T.c_FAR) (nomark _)) (pe_one (pe_cg G_is_between (hr.mono (by first | decide | omega)) hG (by rfl) T.g_is_between T.F_is_between.kp T.b_is_between pass0 (pa_cons (pv 3) (pa_cons (pe_op op_sub pe_int (pe_gl T.c_MOST_BOUND)) (pa_cons (pe_gl T.c_MOST_BOUND) pa_nil)))))))) pa_nil)))) (pss_one (ps_ret pe_bl)) pss_nil)
      (pss_cons (ps_if (pt_val (pe_callB (cr_any rfl) (by rfl) T.n_any (by decide +kernel) (pa_cons (pe_lc (own := [("column", 4)]) (g := gName 4) (tt := tYes) (by rfl) sc_is_zone_of.nd (pi_range1 rfl T.n_range (pa_cons (pv 2) pa_nil)) (blkOk_by (own := [("column", 4)]) (N := ["many", "value", "size", "bound", "column", "at"]) (sc := defScope s_is_zone_of) (by decide +kernel)) (fun _ _ _ _ _ => pg_name (i := 4) sc_is_zone_of.nd rfl (by first | exact Or.inl rfl | exact Or.inr rfl | exact Or.inr (Or.inl rfl))) (fun _ _ _ _ _ => pts_nil) (fun _ _ _ _ _ => (pe_cmpR op_gt (pe_ix (ix_tupX (K := K)) (pv 1) (pv 4) (fun _ _ => rfl)) (pe_gl T.c_NOUGHT) (nomark _)))) pa_nil))) (pss_one (ps_ret pe_bl)) pss_nil)
      (pss_cons (ps_if (pt_not (pt_val (pe_callB (cr_all rfl) (by rfl) T.n_all (by decide +kernel) (pa_cons (pe_lc (own := [("at", 5)]) (g := gName 5) (tt := tYes) (by rfl) sc_is_zone_of.nd (pi_range1 rfl T.n_range (pa_cons (pv 2) pa_nil)) (blkOk_by (own := [("at", 5)]) (N := ["many", "value", "size", "bound", "column", "at"]) (sc := defScope s_is_zone_of) (by decide +kernel)) (fun _ _ _ _ _ => pg_name (i := 5) sc_is_zone_of.nd rfl (by first | exact Or.inl rfl | exact Or.inr rfl | exact Or.inr (Or.inl rfl))) (fun _ _ _ _ _ => pts_nil) (fun _ _ _ _ _ => (pe_cmpR op_eq (pe_ix (ix_tupX (K := K)) (pv 1) (pe_op op_add (pe_op op_mulW (pv 5) (pv 2)) (pv 5)) (fun _ _ => rfl)) (pe_gl T.c_NOUGHT) (nomark _)))) pa_nil)))) (pss_one (ps_ret pe_bl)) pss_nil)
      (pss_one (ps_ret (pe_cmpR (op_eqD hr.units) (pe_cg G_tight (hr.mono (by first | decide | omega)) hG (by rfl) T.g_tight T.F_tight.kp T.b_tight pass0 (pa_cons (pe_callTy call_list_of (by rfl) T.n_list (by decide +kernel) (pa_cons (pv 1) pa_nil)) (pa_cons (pv 2) pa_nil))) (pv 1) (nomark _))))))))), ?_⟩
    refine ⟨_, rfl, _, _, rfl, rfl, ?_⟩
    obtain ⟨n, hn⟩ : ∃ n, n = m + 1 := ⟨_, rfl⟩
    have e1 : (m : Int) + 1 = (n : Int) := by omega
    rw [← hn] at q
    dsimp only
    rw [e1]
    cases z with
    | no h =>
      obtain ⟨ty, kt, et⟩ := h.kTup (K := K)
      exact ⟨_, rfl, v, .ty "tuple", ty, _, _, rfl, .ty _, kt, et, _, rfl, q _ (Same.refl _)⟩
    | @tup a xs h k l =>
      obtain ⟨ty, kt, et⟩ := kTup (K := K) h
      refine ⟨_, rfl, _, .ty "tuple", ty, _, _, rfl, .ty _, kt, et, _, rfl, ?_⟩
      refine ⟨_, rfl, a, xs, rfl, .inr (SqT.of h), _, rfl, _, rfl, _, _, rfl, rfl, wide_mul (a := 20) (b := 20) (by omega) (by omega) (by decide) (by decide) (by decide), rfl, _, rfl, ?_⟩
      have qf : ∀ H', Same H H' → zoneB n xs = false → Q (.bl false) H' := fun H' s e => by
        have := q H' s
        rwa [show zoneO n (some xs) = zoneB n xs from rfl, e] at this
      have hc : V.int (xs.length : Int) = V.int ((n : Int) * (n : Int)) ↔ xs.length = n * n := by
        rw [← Int.natCast_mul]
        exact ⟨fun y => by have := V.int.inj y; omega, fun y => by rw [y]⟩
      refine ite2 (fun e => ?_) (fun e => ?_)
      · refine qf _ (Same.refl _) ?_
        have : ¬ xs.length = n * n := fun y => by
          rw [← hc] at y
          have e3 : (!decide (V.int (xs.length : Int) = V.int ((n : Int) * (n : Int)))) = true := e
          rw [decide_eq_true y] at e3; cases e3
        unfold zoneB
        rw [decide_eq_false this]; rfl
      have el : xs.length = n * n := by
        rw [← hc]
        refine Decidable.byContradiction fun y => e ?_
        show (!decide (V.int (xs.length : Int) = V.int ((n : Int) * (n : Int)))) = true
        rw [decide_eq_false y]; rfl
      have zb : zoneB n xs = (xs.all isIntV && zoneI n (toFn xs)) := by
        unfold zoneB
        rw [decide_eq_true el]; rfl
      refine ⟨_, rfl, a, rfl, ⟨_, SqT.of h⟩, fun D1 hD1 => lcW_tup (ys := xs) (fun y => y) (fun y => V.bl (isIntV y)) hD1 (by rw [List.map_id']; exact h) (by rw [sizeLine_eq]; omega) (fun y hy H1 Q1 s1 k1 => ⟨y, rfl, y, rfl, (k y hy).same s1, k1 _ (Same.refl _)⟩) (fun H1 s1 h1 => ⟨D1, xs.map isIntV, rfl, SqL.of (by rw [h1, List.map_map]; rfl), _, rfl, ?_⟩)⟩
      have ea : (xs.map isIntV).all id = xs.all isIntV := by rw [List.all_map]; rfl
      rw [ea]
      cases ei : xs.all isIntV with
      | false => exact qf _ s1 (by rw [zb, ei]; rfl)
      | true =>
        refine ite2 (fun e => absurd e (by decide)) fun _ => ?_
        rw [ei, Bool.true_and] at zb
        obtain ⟨zs, hzs⟩ := all_int ei
        obtain ⟨f, hf⟩ : ∃ f, f = toFn xs := ⟨_, rfl⟩
        have ht : xs = tab n f := by
          rw [hf, hzs]
          exact ints_tab (by rw [hzs, List.length_map] at el; exact el)
        rw [← hf] at zb
        have h2 : H1 a = some (.tup (tab n f)) := by rw [← ht]; exact s1 _ _ h
        have q2 : ∀ H', Same H1 H' → Q (.bl (zoneI n f)) H' := fun H' s => by
          have := q H' (s1.trans s)
          rwa [show zoneO n (some xs) = zoneB n xs from rfl, zb] at this
        have n4 : n ≤ 4 := by omega
        have nn : n * n ≤ 16 := Nat.mul_le_mul n4 n4
        clear qf hc e el zb ei hzs hf ht h k l q ea h1 hD1
        refine ⟨_, rfl, a, rfl, ⟨_, SqT.of h2⟩, fun D2 hD2 => lcW_tup (ys := List.range (n * n)) (fun i => V.int (f i)) (fun i => V.bl (decide (f i = 1000000) || (decide (-200000 ≤ f i) && decide (f i ≤ 200000)))) hD2 h2 (by rw [List.length_range, sizeLine_eq]; omega) (fun i hi H2 Q2 s2 k2 => ?_) (fun H2 s2 h3 => ⟨D2, (List.range (n * n)).map (fun i => decide (f i = 1000000) || (decide (-200000 ≤ f i) && decide (f i ≤ 200000))), rfl, SqL.of (by rw [h3, List.map_map]; rfl), _, rfl, ?_⟩)⟩
        · refine ⟨_, rfl, rfl, _, rfl, ?_⟩
          by_cases y : f i = 1000000
          · have e3 : (decide (V.int (f i) = V.int 1000000)) = true := by rw [y]; rfl
            rw [if_pos e3]
            have := k2 H2 (Same.refl _)
            rw [decide_eq_true y] at this
            exact this
          · have e3 : ¬ (decide (V.int (f i) = V.int 1000000)) = true := fun z => y (V.int.inj (of_decide_eq_true z))
            rw [if_neg e3]
            refine ⟨_, rfl, _, _, rfl, rfl, _, _, _, rfl, ?_⟩
            have := k2 H2 (Same.refl _)
            rw [decide_eq_false y, Bool.false_or] at this
            exact this
        · have z1 : ((List.range (n * n)).map (fun i => decide (f i = 1000000) || (decide (-200000 ≤ f i) && decide (f i ≤ 200000)))).all id = (List.range (n * n)).all (fun i => decide (f i = 1000000) || (decide (-200000 ≤ f i) && decide (f i ≤ 200000))) := by rw [List.all_map]; rfl
          rw [z1]
          obtain ⟨b1, hb1⟩ : ∃ b, b = (List.range (n * n)).all (fun i => decide (f i = 1000000) || (decide (-200000 ≤ f i) && decide (f i ≤ 200000))) := ⟨_, rfl⟩
          have zi : zoneI n f = (b1 && (!((List.range n).any fun c => decide (f (0 * n + c) > 1)) && ((List.range n).all (fun r => decide (f (r * n + r) = 1)) &&
            ((List.range n).all (fun i => decide (1 ≤ fwF n n f (i * n + i))) && (List.range (n * n)).all fun i => decide (fwF n n f i = f i))))) := by rw [hb1]; rfl
          rw [← hb1]
          rw [zi] at q2
          cases b1 with
          | false => exact q2 _ s2
          | true =>
            refine ite2 (fun e => absurd e (by decide)) fun _ => ?_
            rw [Bool.true_and] at q2
            have bd : BdN (n * n) 25 f := fun i hi => by
              have := List.all_eq_true.mp hb1.symm i (List.mem_range.mpr hi)
              simp at this
              omega
            have h4 := s2 _ _ h2
            clear z1 zi hb1
            refine ⟨_, rfl, _, rfl, by omega, by omega, fun D3 hD3 => lcV_range (fun c => V.bl (decide (f (0 * n + c) > 1))) hD3 (by rw [Int.toNat_natCast, sizeLine_eq]; omega) (fun c hc H3 Q3 s3 k3 => ?_) (fun H3 s3 h5 => ?_)⟩
            · rw [Int.toNat_natCast] at hc
              exact ⟨_, rfl, _, rfl, a, _, _, _, rfl, rfl, SqT.of (s3 _ _ h4), tab_at (ix_lt (by omega) hc) (by rw [Nat.zero_mul]; omega), _, _, rfl, rfl, k3 _ (Same.refl _)⟩
            · rw [Int.toNat_natCast] at h5
              refine ⟨D3, (List.range n).map (fun c => decide (f (0 * n + c) > 1)), rfl, SqL.of (by rw [h5, List.map_map]; rfl), _, rfl, ?_⟩
              have z1 : ((List.range n).map (fun c => decide (f (0 * n + c) > 1))).any id = (List.range n).any (fun c => decide (f (0 * n + c) > 1)) := by rw [List.any_map]; rfl
              rw [z1]
              obtain ⟨b2, hb2⟩ : ∃ b, b = (List.range n).any (fun c => decide (f (0 * n + c) > 1)) := ⟨_, rfl⟩
              rw [← hb2] at q2 ⊢
              cases b2 with
              | true => exact q2 _ (s2.trans s3)
              | false =>
                refine ite2 (fun e => Bool.noConfusion e) fun _ => ?_
                have q3 : ∀ H', Same H1 H' → Q (.bl ((List.range n).all (fun r => decide (f (r * n + r) = 1)) && ((List.range n).all (fun i => decide (1 ≤ fwF n n f (i * n + i))) && (List.range (n * n)).all fun i => decide (fwF n n f i = f i)))) H' := q2
                have h6 := s3 _ _ h4
                clear q2 z1 hb2
                refine ⟨_, rfl, _, rfl, by omega, by omega, fun D4 hD4 => lcV_range (fun r => V.bl (decide (f (r * n + r) = 1))) hD4 (by rw [Int.toNat_natCast, sizeLine_eq]; omega) (fun r hr' H4 Q4 s4 k4 => ?_) (fun H4 s4 h7 => ?_)⟩
                · rw [Int.toNat_natCast] at hr'
                  refine ⟨_, rfl, _, rfl, _, rfl, _, _, rfl, rfl, mulI hr' n4, _, rfl, _, _, rfl, rfl, a, _, _, _, rfl, rfl, SqT.of (s4 _ _ h6), tab_at (ix_lt hr' hr') ixI0, rfl, ?_⟩
                  have e3 : decide (V.int (f (r * n + r)) = V.int 1) = decide (f (r * n + r) = 1) := decide_eq_decide.mpr ⟨V.int.inj, fun y => by rw [y]⟩
                  rw [e3]
                  exact k4 _ (Same.refl _)
                · rw [Int.toNat_natCast] at h7
                  refine ⟨D4, (List.range n).map (fun r => decide (f (r * n + r) = 1)), rfl, SqL.of (by rw [h7, List.map_map]; rfl), _, rfl, ?_⟩
                  have z1 : ((List.range n).map (fun r => decide (f (r * n + r) = 1))).all id = (List.range n).all (fun r => decide (f (r * n + r) = 1)) := by rw [List.all_map]; rfl
                  rw [z1]
                  obtain ⟨b3, hb3⟩ : ∃ b, b = (List.range n).all (fun r => decide (f (r * n + r) = 1)) := ⟨_, rfl⟩
                  rw [← hb3] at q3 ⊢
                  have s14 := (s2.trans s3).trans s4
                  cases b3 with
                  | false => exact q3 _ s14
                  | true =>
                    refine ite2 (fun e => absurd e (by decide)) fun _ => ?_
                    rw [Bool.true_and] at q3
                    have h8 := s4 _ _ h6
                    clear z1 hb3
                    refine ⟨_, rfl, a, _, rfl, .inr (SqT.of h8), fun l2 hl2 => ?_⟩
                    have s5 := same_upd (o := .lst (tab n f)) hl2
                    have lift : ∀ {H' : Hp}, But l2 (upd H4 l2 (.lst (tab n f))) H' → Same H4 H' := fun b2 b o e => b2 b o (ne_of_none e hl2) (s5 b o e)
                    refine ⟨_, rfl, l2, n, f, rfl, upd_same, n4, bd, fun z H5 b5 => ?_, fun z p H5 b5 np ne e5 => ?_⟩
                    · have s15 := s14.trans (lift b5)
                      have := q3 _ s15
                      have zf : (List.range n).all (fun i => decide (1 ≤ fwF n n f (i * n + i))) = false := by
                        obtain ⟨i, hi, lt⟩ := z
                        rw [List.all_eq_false]
                        exact ⟨i, List.mem_range.mpr hi, by simp; omega⟩
                      rw [zf, Bool.false_and] at this
                      have h9 := lift b5 _ _ h8
                      refine ⟨_, rfl, .none, .tuple (dI (ilist n f)), .non, (td_tab h9).dp, rfl, shaped_ints _, this⟩
                    · have s15 := s14.trans (lift b5)
                      have := q3 _ s15
                      have zf : (List.range n).all (fun i => decide (1 ≤ fwF n n f (i * n + i))) = true := List.all_eq_true.mpr fun i hi => decide_eq_true (z i (List.mem_range.mp hi))
                      rw [zf, Bool.true_and] at this
                      have h9 := lift b5 _ _ h8
                      refine ⟨_, rfl, .tuple (dI (ilist n (fwF n n f))), .tuple (dI (ilist n f)), (td_tab e5).dp, (td_tab h9).dp, shaped_ints _, shaped_ints _, ?_⟩
                      rw [PyData.eqv, eqv_ints, ints_eq]
                      exact this
end
end My

namespace My
open PySem PySem.Spec PyProof.Rows L2
def zoneAny (o : Option (List V)) : Bool := zoneO 2 o || (zoneO 3 o || (zoneO 4 o || false))
/-- is_zone(value) -/
def spZone : Sp := fun vs H Q _ => ∃ (v : V) (o : Option (List V)), vs = [v] ∧ ZV H v o ∧ ∀ H', Same H H' → Q (.bl (zoneAny o)) H'
/-- a zone -/
def ZnAt (H : Hp) (v : V) (n : Nat) (B : Int) (f : Nat → Int) : Prop := ∃ a, v = .ref a ∧ H a = some (.tup (tab n f)) ∧ Zn n B f
theorem ZnAt.same {H H' : Hp} {v : V} {n : Nat} {B : Int} {f : Nat → Int} (h : ZnAt H v n B f) (s : Same H H') : ZnAt H' v n B f := by
  obtain ⟨a, e, h, z⟩ := h
  exact ⟨a, e, s _ _ h, z⟩
theorem tab_ints_all (n : Nat) (f : Nat → Int) : (tab n f).all isIntV = true := by
  unfold tab
  rw [List.all_map, List.all_eq_true]
  intro i _; rfl
theorem toFn_tab {n i : Nat} {f : Nat → Int} (h : i < n * n) : toFn (tab n f) i = f i := by
  unfold toFn
  rw [tab_get h]
theorem fw_congr {n : Nat} {f g : Nat → Int} (h : ∀ i, i < n * n → f i = g i) : ∀ i, i < n * n → fwF n n f i = fwF n n g i := by
  have st : ∀ m r c (f g : Nat → Int), m < n → r < n → c < n → (∀ i, i < n * n → f i = g i) → ∀ i, i < n * n → stepF n m r c f i = stepF n m r c g i := by
    intro m r c f g hm hr hc h i hi
    unfold stepF
    by_cases e : i = r * n + c
    · rw [e, upF_same, upF_same, h _ (ix_lt hr hc), h _ (ix_lt hr hm), h _ (ix_lt hm hc)]
    · rw [upF_ne e, upF_ne e, h i hi]
  have co : ∀ m r (f g : Nat → Int), m < n → r < n → (∀ i, i < n * n → f i = g i) → ∀ j, j ≤ n → ∀ i, i < n * n → colF n m r j f i = colF n m r j g i := by
    intro m r f g hm hr h j
    induction j with
    | zero => intro _; exact h
    | succ j ih => intro hj; exact st m r j _ _ hm hr hj (ih (by omega))
  have ro : ∀ m (f g : Nat → Int), m < n → (∀ i, i < n * n → f i = g i) → ∀ k, k ≤ n → ∀ i, i < n * n → rowF n m k f i = rowF n m k g i := by
    intro m f g hm h k
    induction k with
    | zero => intro _; exact h
    | succ k ih => intro hk; exact co m k _ _ hm hk (ih (by omega)) n (Nat.le_refl _)
  have fw : ∀ k, k ≤ n → ∀ i, i < n * n → fwF n k f i = fwF n k g i := by
    intro k
    induction k with
    | zero => intro _; exact h
    | succ k ih => intro hk; exact ro k _ _ hk (ih (by omega)) n (Nat.le_refl _)
  exact fw n (Nat.le_refl _)
theorem zoneI_congr {n : Nat} {f g : Nat → Int} (h : ∀ i, i < n * n → f i = g i) : zoneI n f = zoneI n g := by
  have k := fw_congr h
  have ac : ∀ (m : Nat) (p q : Nat → Bool), (∀ i, i < m → p i = q i) → (List.range m).all p = (List.range m).all q := fun m p q e => by
    rw [Bool.eq_iff_iff, List.all_eq_true, List.all_eq_true]
    exact ⟨fun a i hi => by rw [← e i (List.mem_range.mp hi)]; exact a i hi, fun a i hi => by rw [e i (List.mem_range.mp hi)]; exact a i hi⟩
  have an : ∀ (m : Nat) (p q : Nat → Bool), (∀ i, i < m → p i = q i) → (List.range m).any p = (List.range m).any q := fun m p q e => by
    rw [Bool.eq_iff_iff, List.any_eq_true, List.any_eq_true]
    exact ⟨fun ⟨i, hi, a⟩ => ⟨i, hi, by rw [← e i (List.mem_range.mp hi)]; exact a⟩, fun ⟨i, hi, a⟩ => ⟨i, hi, by rw [e i (List.mem_range.mp hi)]; exact a⟩⟩
  have e1 := ac (n * n) (fun i => decide (f i = 1000000) || (decide (-200000 ≤ f i) && decide (f i ≤ 200000))) (fun i => decide (g i = 1000000) || (decide (-200000 ≤ g i) && decide (g i ≤ 200000))) fun i hi => by rw [h i hi]
  have e2 := an n (fun c => decide (f (0 * n + c) > 1)) (fun c => decide (g (0 * n + c) > 1)) fun i hi => by rw [h _ (ix_lt (by omega) hi)]
  have e3 := ac n (fun r => decide (f (r * n + r) = 1)) (fun r => decide (g (r * n + r) = 1)) fun i hi => by rw [h _ (ix_lt hi hi)]
  have e4 := ac n (fun i => decide (1 ≤ fwF n n f (i * n + i))) (fun i => decide (1 ≤ fwF n n g (i * n + i))) fun i hi => by rw [k _ (ix_lt hi hi)]
  have e5 := ac (n * n) (fun i => decide (fwF n n f i = f i)) (fun i => decide (fwF n n g i = g i)) fun i hi => by rw [k i hi, h i hi]
  unfold zoneI
  rw [e1, e2, e3, e4, e5]
theorem zn_zoneI {n : Nat} {B : Int} {f : Nat → Int} (z : Zn n B f) : zoneI n f = true := by
  have F := fw_id z.tri n (Nat.le_refl _)
  unfold zoneI
  rw [F, Bool.and_eq_true, Bool.and_eq_true, Bool.and_eq_true, Bool.and_eq_true]
  refine ⟨List.all_eq_true.mpr fun i hi => ?_, ?_, List.all_eq_true.mpr fun i hi => decide_eq_true (z.diag i (List.mem_range.mp hi)), List.all_eq_true.mpr fun i hi => decide_eq_true (by rw [z.diag i (List.mem_range.mp hi)]; decide), List.all_eq_true.mpr fun i hi => decide_eq_true rfl⟩
  · obtain ⟨r, c, hc, rfl⟩ := ix_of n i (by have := z.two; omega)
    have hr : r < n := by
      refine Nat.lt_of_not_le fun y => ?_
      have := Nat.mul_le_mul_right n y
      have := List.mem_range.mp hi
      omega
    have := z.ok hr hc
    have := z.lim
    unfold Ok at *
    simp
    omega
  · rw [Bool.not_eq_true', List.any_eq_false]
    intro c hc
    have := (z.row c (List.mem_range.mp hc)).2
    rw [decide_eq_false (by omega)]
    decide
theorem zn_any {n : Nat} {B : Int} {f : Nat → Int} (z : Zn n B f) : zoneAny (some (tab n f)) = true := by
  have h : zoneO n (some (tab n f)) = true := by
    show zoneB n (tab n f) = true
    unfold zoneB
    rw [decide_eq_true (tab_len n f), tab_ints_all, zoneI_congr (g := f) fun i hi => toFn_tab hi, zn_zoneI z]; rfl
  have two := z.two
  have four := z.four
  unfold zoneAny
  have c : n = 2 ∨ n = 3 ∨ n = 4 := by omega
  rcases c with rfl | rfl | rfl <;> simp [h]
theorem tab_known {H : Hp} {n : Nat} {f : Nat → Int} : ∀ y ∈ tab n f, Known H y := fun y hy => by
  unfold tab at hy
  obtain ⟨i, _, rfl⟩ := List.mem_map.mp hy
  exact .int _
theorem ZnAt.zv {H : Hp} {v : V} {n : Nat} {B : Int} {f : Nat → Int} (h : ZnAt H v n B f) : ZV H v (some (tab n f)) := by
  obtain ⟨a, rfl, h, z⟩ := h
  refine .tup h tab_known ?_
  rw [tab_len]
  have := Nat.mul_le_mul z.four z.four
  omega
/-- check_zone(zone) -/
def spCheck : Sp := fun vs H Q _ => ∃ (v : V) (n : Nat) (B : Int) (f : Nat → Int), vs = [v] ∧ ZnAt H v n B f ∧ ∀ H', Same H H' → Q .non H'
def spFirst : Sp := fun vs H Q _ => ∃ n : Nat, vs = [.int (n : Int)] ∧ 1 ≤ n ∧ n ≤ 3 ∧ ∀ p H', Same H H' → H p = none → H' p = some (.tup (tab (n + 1) fun _ => 1)) → Q (.ref p) H'
def spLater : Sp := fun vs H Q _ => ∃ (v : V) (n : Nat) (B : Int) (f : Nat → Int), vs = [v] ∧ ZnAt H v n B f ∧ ∀ p H', Same H H' → H p = none → ZnAt H' (.ref p) n B (laterF n f) → Q (.ref p) H'
section
variable {P : Program} {w : World} {K : PySem.W.Frag} {mg : Str → Option Value} {base : Heap} {A : Nat → Addr} {D : Nat → FuncData}
theorem ok_zone (T : Txt K mg A D) : FnG P w K mg base CX0 4 (A 13) (D 13) ["value"] spZone := by
  have G_is_zone_of := ok_zoneof (P := P) (w := w) (base := base) T
  refine def_ok0 T.F_is_zone sc_is_zone (fun vs H Q E h => ?_) (fun cdv Ar outer s H vs Q E hr hG h => ?_)
  · obtain ⟨v, o, rfl, _⟩ := h; rfl
  · obtain ⟨v, o, rfl, z, q⟩ := h
    refine ⟨_, (pss_one (ps_ret (pe_callB (cr_any rfl) (by rfl) T.n_any (by decide +kernel) (pa_cons (pe_lc (own := [("many", 1)]) (g := gName 1) (tt := tYes) (by rfl) sc_is_zone.nd (pi_tup (pe_tup (pa_cons pe_int (pa_cons pe_int (pa_cons pe_int pa_nil))))) (blkOk_by (own := [("many", 1)]) (N := ["value", "many"]) (sc := defScope s_is_zone) (by decide +kernel)) (fun _ _ _ _ _ => pg_name (i := 1) sc_is_zone.nd rfl (by first | exact Or.inl rfl | exact Or.inr rfl | exact Or.inr (Or.inl rfl))) (fun _ _ _ _ _ => pts_nil) (fun _ _ _ _ _ => (pe_cg G_is_zone_of (hr.mono (by first | decide | omega)) hG (by rfl) T.g_is_zone_of T.F_is_zone_of.kp T.b_is_zone_of pass0 (pa_cons (pv 1) (pa_cons (pv 0) pa_nil))))) pa_nil)))), ?_⟩
    refine ⟨(by show 3 ≤ sizeLine; decide), fun t ht => ?_⟩
    have st := same_upd (o := .tup [.int 1, .int 2, .int 3]) ht
    refine ⟨t, rfl, ⟨_, SqT.of upd_same⟩, fun D1 hD1 => lcW_tup (ys := [1, 2, 3]) (fun i : Nat => V.int (i : Int)) (fun i => V.bl (zoneO (i + 1) o)) hD1 upd_same (by rw [sizeLine_eq]; decide) (fun i hi H1 Q1 s1 k1 => ?_) (fun H1 s1 h1 => ⟨D1, [zoneO 2 o, zoneO 3 o, zoneO 4 o], rfl, SqL.of h1, ?_⟩)⟩
    · have c : 1 ≤ i ∧ i ≤ 3 := by
        simp only [List.mem_cons, List.not_mem_nil, or_false] at hi
        omega
      exact ⟨_, rfl, _, rfl, i, v, o, rfl, c.1, c.2, (z.same st).same s1, fun H2 s2 => k1 H2 s2⟩
    · exact q _ (st.trans s1)
theorem ok_check (T : Txt K mg A D) : FnG P w K mg base CX0 5 (A 14) (D 14) ["zone"] spCheck := by
  have G_is_zone := ok_zone (P := P) (w := w) (base := base) T
  refine def_ok0 T.F_check_zone sc_check_zone (fun vs H Q E h => ?_) (fun cdv Ar outer s H vs Q E hr hG h => ?_)
  · obtain ⟨v, n, B, f, rfl, _⟩ := h; rfl
  · obtain ⟨v, n, B, f, rfl, z, q⟩ := h
    refine ⟨_, (pss_one (ps_if (pt_not (pt_val (pe_cg G_is_zone (hr.mono (by first | decide | omega)) hG (by rfl) T.g_is_zone T.F_is_zone.kp T.b_is_zone pass0 (pa_cons (pv 0) pa_nil)))) (pss_one ps_never) pss_nil)), ?_⟩
    refine ⟨_, rfl, v, _, rfl, z.zv, fun H1 s1 => ⟨_, rfl, ?_⟩⟩
    obtain ⟨a, _, _, zz⟩ := z
    rw [zn_any zz]
    exact q _ s1
theorem ok_first (T : Txt K mg A D) : FnG P w K mg base CX0 3 (A 16) (D 16) ["many"] spFirst := by
  have G_is_between := ok_between (P := P) (w := w) (base := base) T
  have G_begin_zone := ok_begin (P := P) (w := w) (base := base) T
  refine def_ok0 T.F_first_zone sc_first_zone (fun vs H Q E h => ?_) (fun cdv Ar outer s H vs Q E hr hG h => ?_)
  · obtain ⟨n, rfl, _⟩ := h; rfl
  · obtain ⟨n, rfl, n1, n3, q⟩ := h
    refine ⟨_, (pss_cons (ps_if (pt_not (pt_val (pe_cg G_is_between (hr.mono (by first | decide | omega)) hG (by rfl) T.g_is_between T.F_is_between.kp T.b_is_between pass0 (pa_cons (pv 0) (pa_cons pe_int (pa_cons (pe_gl T.c_MOST_CLOCKS) pa_nil)))))) (pss_one ps_never) pss_nil)
      (pss_one (ps_ret (pe_cg G_begin_zone (hr.mono (by first | decide | omega)) hG (by rfl) T.g_begin_zone T.F_begin_zone.kp T.b_begin_zone pass0 (pa_cons (pv 0) pa_nil))))), ?_⟩
    refine ⟨_, rfl, _, _, _, rfl, _, rfl, ?_⟩
    rw [decide_eq_true (show (1 : Int) ≤ (n : Int) by omega), decide_eq_true (show (n : Int) ≤ 3 by omega)]
    exact ⟨_, rfl, n, rfl, n1, n3, q⟩
theorem ok_later (T : Txt K mg A D) : FnG P w K mg base CX0 6 (A 17) (D 17) ["zone"] spLater := by
  have G_check_zone := ok_check (P := P) (w := w) (base := base) T
  have G_passed := ok_passed (P := P) (w := w) (base := base) T
  refine def_ok0 T.F_later_zone sc_later_zone (fun vs H Q E h => ?_) (fun cdv Ar outer s H vs Q E hr hG h => ?_)
  · obtain ⟨v, n, B, f, rfl, _⟩ := h; rfl
  · obtain ⟨v, n, B, f, rfl, z, q⟩ := h
    refine ⟨_, (pss_cons (ps_expr (pe_cg G_check_zone (hr.mono (by first | decide | omega)) hG (by rfl) T.g_check_zone T.F_check_zone.kp T.b_check_zone pass0 (pa_cons (pv 0) pa_nil)))
      (pss_one (ps_ret (pe_cg G_passed (hr.mono (by first | decide | omega)) hG (by rfl) T.g_passed T.F_passed.kp T.b_passed pass0 (pa_cons (pv 0) pa_nil))))), ?_⟩
    refine ⟨v, rfl, v, n, B, f, rfl, z, fun H1 s1 => ?_⟩
    obtain ⟨a, rfl, ha, zz⟩ := z
    refine ⟨_, rfl, a, n, f, rfl, s1 _ _ ha, zz.two, zz.four, fun p H2 s2 np h2 => q p H2 (s1.trans s2) (s1.free np) ⟨p, rfl, h2, zz.later⟩⟩
end
end My

namespace My
open PySem PySem.Spec PyProof.Rows L2
/-- a value: a fraction p / q that is x sixths -/
structure Fv where
  a : Addr
  p : Int
  q : Int
  x : Int
def Fv.ok (v : Fv) : Prop := 6 * v.p = v.x * v.q ∧ 1 ≤ v.q ∧ v.q ≤ 6 ∧ v.p.natAbs < 2 ^ 20 ∧ Int.gcd v.p v.q = 1
def FracsAt (H : Hp) (g : Addr) (fs : List Fv) : Prop := H g = some (.tup (fs.map fun v => V.ref v.a)) ∧ ∀ v ∈ fs, H v.a = some (.tup [.int v.p, .int v.q]) ∧ v.ok
theorem FracsAt.same {H H' : Hp} {g : Addr} {fs : List Fv} (h : FracsAt H g fs) (s : Same H H') : FracsAt H' g fs := ⟨s _ _ h.1, fun v hv => ⟨s _ _ (h.2 v hv).1, (h.2 v hv).2⟩⟩
def xOf (fs : List Fv) : Nat → Int
  | 0 => 0
  | i + 1 => ((fs[i]?).map (·.x)).getD 0
def inB (n : Nat) (f : Nat → Int) (x : Nat → Int) : Bool := (List.range n).all fun r => (List.range n).all fun c => satB (f (r * n + c)) (x r - x c)
theorem inB_iff {n : Nat} {f x : Nat → Int} : inB n f x = true ↔ InZ n f x := by
  unfold inB InZ
  rw [List.all_eq_true]
  constructor
  · intro h r c hr hc
    exact List.all_eq_true.mp (h r (List.mem_range.mpr hr)) c (List.mem_range.mpr hc)
  · intro h r hr
    exact List.all_eq_true.mpr fun c hc => h r c (List.mem_range.mp hr) (List.mem_range.mp hc)
/-- what the program asks of two fractions -/
theorem frac_sat {b p q p' q' x x' : Int} (h : 6 * p = x * q) (h' : 6 * p' = x' * q') (hq : 1 ≤ q) (hq' : 1 ≤ q') (hb : b ≠ 1000000) :
    (decide (p * q' - p' * q > b / 2 * q * q') || (decide (p * q' - p' * q = b / 2 * q * q') && decide (b % 2 = 0))) = !satB b (x - x') := by
  have hQ : 0 < q * q' := Int.mul_pos (by omega) (by omega)
  have e1 : 6 * (p * q' - p' * q) = (x - x') * (q * q') := by
    have a1 : 6 * (p * q') = x * (q * q') := by rw [← Int.mul_assoc, h, Int.mul_assoc]
    have a2 : 6 * (p' * q) = x' * (q * q') := by rw [← Int.mul_assoc, h', Int.mul_assoc, Int.mul_comm q' q]
    rw [Int.mul_sub, a1, a2, Int.sub_mul]
  have e2 : 6 * (b / 2 * q * q') = 6 * (b / 2) * (q * q') := by rw [Int.mul_assoc (b / 2), Int.mul_assoc 6]
  have gt : (p * q' - p' * q > b / 2 * q * q') ↔ x - x' > 6 * (b / 2) := by
    constructor
    · intro z
      have z2 : 6 * (b / 2) * (q * q') < (x - x') * (q * q') := by rw [← e1, ← e2]; omega
      exact Int.lt_of_mul_lt_mul_right z2 (Int.le_of_lt hQ)
    · intro z
      have z2 : 6 * (b / 2) * (q * q') < (x - x') * (q * q') := Int.mul_lt_mul_of_pos_right z hQ
      rw [← e1, ← e2] at z2
      omega
  have eq : (p * q' - p' * q = b / 2 * q * q') ↔ x - x' = 6 * (b / 2) := by
    constructor
    · intro z
      have z2 : (x - x') * (q * q') = 6 * (b / 2) * (q * q') := by rw [← e1, ← e2, z]
      exact Int.eq_of_mul_eq_mul_right (by omega) z2
    · intro z
      have z2 : (x - x') * (q * q') = 6 * (b / 2) * (q * q') := by rw [z]
      rw [← e1, ← e2] at z2
      omega
  rw [decide_eq_decide.mpr gt, decide_eq_decide.mpr eq]
  unfold satB
  rw [decide_eq_false hb, Bool.false_or]
  by_cases a1 : x - x' > 6 * (b / 2)
  · rw [decide_eq_true a1, decide_eq_false (show ¬ (x - x' < 6 * (b / 2)) by omega), decide_eq_false (show ¬ (x - x' = 6 * (b / 2)) by omega)]; rfl
  · by_cases a2 : x - x' = 6 * (b / 2)
    · rw [decide_eq_false a1, decide_eq_false (show ¬ (x - x' < 6 * (b / 2)) by omega), decide_eq_true a2]
      rcases par2 b with r | r <;> rw [r] <;> rfl
    · rw [decide_eq_false a1, decide_eq_true (show (x - x' < 6 * (b / 2)) by omega), decide_eq_false a2]; rfl
/-- has_values(zone, values) -/
def spHas : Sp := fun vs H Q _ => ∃ (a g : Addr) (n : Nat) (f : Nat → Int) (fs : List Fv), vs = [.ref a, .ref g] ∧ H a = some (.tup (tab n f)) ∧ 2 ≤ n ∧ n ≤ 4 ∧ BdN (n * n) 25 f ∧ FracsAt H g fs ∧ fs.length = n - 1 ∧ ∀ H', Same H H' → Q (.bl (inB n f (xOf fs))) H'
section
variable {P : Program} {w : World} {K : PySem.W.Frag} {mg : Str → Option Value} {base : Heap} {A : Nat → Addr} {D : Nat → FuncData}
theorem ok_has (T : Txt K mg A D) : FnG P w K mg base CX0 2 (A 15) (D 15) ["zone", "values"] spHas := by
  have G_side_of := ok_side (P := P) (w := w) (base := base) T
  refine def_ok0 T.F_has_values sc_has_values (fun vs H Q E h => ?_) (fun cdv Ar outer s H vs Q E hr hG h => ?_)
  · obtain ⟨a, g, n, f, fs, rfl, _⟩ := h; rfl
  · obtain ⟨a, g, n, f, fs, rfl, ha, n2, n4, bd, hf, lf, q⟩ := h
    refine ⟨_, (pss_cons (ps_par (i := 2) (j := 3) (by rfl) sc_has_values.nd rfl rfl (by decide) rfl rfl (pa_cons (pe_cg G_side_of (hr.mono (by first | decide | omega)) hG (by rfl) T.g_side_of T.F_side_of.kp T.b_side_of pass0 (pa_cons (pv 0) pa_nil)) (pa_cons (pe_lst (pa_cons (pe_tup (pa_cons pe_int (pa_cons pe_int pa_nil))) (StX.pa_star (pv 1) pa_nil))) pa_nil)) (by rfl))
      (pss_cons (ps_for (by first | exact PassesOwn.never | exact PassesOwn.leaving | exact L2.passes_of rfl) rfl (pi_range1 rfl T.n_range (pa_cons (pv 2) pa_nil)) (pg_name (i := 4) sc_has_values.nd rfl (Or.inl rfl)) (pss_one (ps_for (by first | exact PassesOwn.never | exact PassesOwn.leaving | exact L2.passes_of rfl) rfl (pi_range1 rfl T.n_range (pa_cons (pv 2) pa_nil)) (pg_name (i := 5) sc_has_values.nd rfl (Or.inl rfl)) (pss_cons (ps_set (i := 6) sc_has_values.nd rfl (Or.inl rfl) (pe_ix ix_tup (pv 0) (pe_op op_add (pe_op op_mulW (pv 4) (pv 2)) (pv 5)) (fun _ _ => rfl)))
      (pss_one (ps_if (pt_cmpR op_ne (pv 6) (pe_gl T.c_FAR) (nomark _)) (pss_cons (ps_asg (pe_tup (pa_cons (pe_ix ix_list (pv 3) (pv 4) (fun _ _ => rfl)) (pa_cons (pe_ix ix_list (pv 3) (pv 5) (fun _ _ => rfl)) pa_nil))) (pg_tup rfl (pgs_cons (pg_tup rfl (pgs_cons (pg_name (i := 7) sc_has_values.nd rfl (Or.inl rfl)) (pgs_cons (pg_name (i := 8) sc_has_values.nd rfl (Or.inl rfl)) pgs_nil))) (pgs_cons (pg_tup rfl (pgs_cons (pg_name (i := 9) sc_has_values.nd rfl (Or.inl rfl)) (pgs_cons (pg_name (i := 10) sc_has_values.nd rfl (Or.inl rfl)) pgs_nil))) pgs_nil))))
      (pss_cons (ps_par (i := 11) (j := 12) (by rfl) sc_has_values.nd rfl rfl (by decide) rfl rfl (pa_cons (pe_op op_sub (pe_op op_mulW (pv 7) (pv 10)) (pe_op op_mulW (pv 9) (pv 8))) (pa_cons (pe_op op_mulW (pe_op op_mulW (pe_op op_fdivW (pv 6) pe_int) (pv 8)) (pv 10)) pa_nil)) (by rfl))
      (pss_one (ps_if (PW.pt (pw_or (pt_cmpR op_gt (pv 11) (pv 12) (nomark _)) (pw_or1 (PW.pt (pw_and (pt_cmpR op_eq (pv 11) (pv 12) (nomark _)) (pw_and1 (pt_cmpR op_eq (pe_op op_modN (pv 6) pe_int) pe_int (nomark _)))))))) (pss_one (ps_ret pe_bl)) pss_nil)))) pss_nil))))))
      (pss_one (ps_ret pe_bl)))), ?_⟩
    refine ⟨_, rfl, a, tab n f, n, rfl, ha, tab_len n f, by omega, by omega, (by show 2 ≤ sizeLine; decide), fun z0 hz0 => ?_⟩
    have s0 := same_upd (o := .tup [.int 0, .int 1]) hz0
    refine ⟨_, rfl, g, _, rfl, .inl (SqT.of (s0 _ _ hf.1)), ?_⟩
    have lE : (V.ref z0 :: (fs.map fun v => V.ref v.a)).length ≤ 4 := by rw [List.length_cons, List.length_map]; omega
    refine ⟨Nat.le_trans (show _ ≤ 4 from by rw [List.append_nil]; exact lE) (sz_line (by decide)), fun l hl => ?_⟩
    have s1 := s0.trans (same_upd (o := .lst (V.ref z0 :: (fs.map fun v => V.ref v.a))) hl)
    obtain ⟨fs', hfs⟩ : ∃ fs', fs' = (⟨z0, 0, 1, 0⟩ : Fv) :: fs := ⟨_, rfl⟩
    rw [List.append_nil]
    have eL : (upd (upd H z0 (.tup [.int 0, .int 1])) l (.lst (V.ref z0 :: (fs.map fun v => V.ref v.a)))) l = some (.lst (fs'.map fun v => V.ref v.a)) := by rw [upd_same, hfs]; rfl
    have vz : (upd (upd H z0 (.tup [.int 0, .int 1])) l (.lst (V.ref z0 :: (fs.map fun v => V.ref v.a)))) z0 = some (.tup [.int 0, .int 1]) := (same_upd hl) _ _ upd_same
    generalize upd (upd H z0 (.tup [.int 0, .int 1])) l (.lst (V.ref z0 :: (fs.map fun v => V.ref v.a))) = H2 at s1 eL vz ⊢
    have get : ∀ r, r < n → ∃ v, fs'[r]? = some v ∧ v.x = xOf fs r ∧ v.ok ∧ H2 v.a = some (.tup [.int v.p, .int v.q]) := by
      intro r hr
      rw [hfs]
      cases r with
      | zero => exact ⟨⟨z0, 0, 1, 0⟩, rfl, rfl, ⟨rfl, (show (1 : Int) ≤ 1 by decide), (show (1 : Int) ≤ 6 by decide), (show (0 : Int).natAbs < 2 ^ 20 by decide), (show Int.gcd 0 1 = 1 by decide)⟩, vz⟩
      | succ r =>
        have hr2 : r < fs.length := by omega
        have e : fs[r]? = some fs[r] := List.getElem?_eq_getElem hr2
        obtain ⟨k1, k2⟩ := hf.2 _ (List.getElem_mem hr2)
        refine ⟨fs[r], e, ?_, k2, s1 _ _ k1⟩
        show _ = ((fs[r]?).map (·.x)).getD 0
        rw [e]; rfl
    have ha2 := s1 _ _ ha
    refine ⟨_, _, rfl, _, rfl, _, rfl, by omega, by omega, for_range (fun i σ H' => ∃ u4 u5 u6 u7 u8 u9 u10 u11 u12, σ = [some (.ref a), some (.ref g), some (.int n), some (.ref l), u4, u5, u6, u7, u8, u9, u10, u11, u12] ∧ Same H2 H' ∧ ∀ r c, r < i → c < n → satB (f (r * n + c)) (xOf fs r - xOf fs c) = true) ⟨none, none, none, none, none, none, none, none, none, rfl, Same.refl _, fun r c h => absurd h (by omega)⟩ ?_ ?_⟩
    · rintro i σ H3 hi ⟨u4, u5, u6, u7, u8, u9, u10, u11, u12, rfl, s3, S3⟩
      rw [Int.toNat_natCast] at hi
      refine ⟨_, rfl, _, rfl, by omega, by omega, for_range (fun j σ H' => ∃ u5 u6 u7 u8 u9 u10 u11 u12, σ = [some (.ref a), some (.ref g), some (.int n), some (.ref l), some (.int (0 + (i : Int))), u5, u6, u7, u8, u9, u10, u11, u12] ∧ Same H2 H' ∧ ∀ c, c < j → satB (f (i * n + c)) (xOf fs i - xOf fs c) = true) ⟨_, _, _, _, _, _, _, _, rfl, s3, fun c h => absurd h (by omega)⟩ ?_ ?_⟩
      · rintro j σ H4 hj ⟨u5, u6, u7, u8, u9, u10, u11, u12, rfl, s4, S4⟩
        rw [Int.toNat_natCast] at hj
        have bb := bd _ (ix_lt hi hj)
        refine ⟨_, rfl, _, rfl, _, rfl, _, _, rfl, rfl, mulI hi n4, _, rfl, _, _, rfl, rfl, a, _, _, _, rfl, rfl, SqT.of (s4 _ _ ha2), tab_at (ix_lt hi hj) ixI0, ?_⟩
        refine ⟨_, rfl, rfl, _, rfl, ite2 (fun e => ?_) (fun e => ?_)⟩
        · have hb : f (i * n + j) ≠ 1000000 := fun y => by
            have e3 : (!decide (V.int (f (i * n + j)) = V.int 1000000)) = true := e
            rw [y] at e3; exact ne_self _ e3
          obtain ⟨v, v1, v2, ⟨v3, v4, v5, v6, _⟩, v7⟩ := get i hi
          obtain ⟨w, w1, w2, ⟨w3, w4, w5, w6, _⟩, w7⟩ := get j hj
          have lv : ∀ {r : Nat} {z : Fv}, fs'[r]? = some z → (fs'.map fun v => V.ref v.a)[r]? = some (V.ref z.a) := fun e => by rw [List.getElem?_map, e]; rfl
          have i0 : ∀ r : Nat, (0 + (r : Int)) = ((r : Nat) : Int) := fun r => by omega
          refine ⟨_, rfl, _, rfl, l, _, _, _, rfl, rfl, SqL.of (s4 _ _ eL), (by rw [i0]; exact atI_nat (lv v1)), ?_⟩
          refine ⟨_, rfl, _, rfl, l, _, _, _, rfl, rfl, SqL.of (s4 _ _ eL), (by rw [i0]; exact atI_nat (lv w1)), (by show 2 ≤ sizeLine; decide), fun t ht => ?_⟩
          have s5 := s4.trans (same_upd (o := .tup [.ref v.a, .ref w.a]) ht)
          refine ⟨t, _, rfl, SqT.of upd_same, rfl, _, _, rfl, v.a, _, rfl, SqT.of (s5 _ _ v7), rfl, _, _, rfl, _, _, rfl, rfl, _, _, rfl, w.a, _, rfl, SqT.of (s5 _ _ w7), rfl, _, _, rfl, _, _, rfl, rfl, rfl, ?_⟩
          have fsat := frac_sat (b := f (i * n + j)) v3 w3 v4 w4 hb
          rw [v2, w2] at fsat
          have mul3 : ∀ {x y : Int}, x.natAbs < 2 ^ 40 → y.natAbs < 2 ^ 40 → CMulW x y := fun a b => wide_mul a b (by decide) (by decide) (by decide)
          have h2 : (f (i * n + j) / 2).natAbs < 2 ^ 25 := by omega
          have h3 : (f (i * n + j) / 2 * v.q).natAbs < 2 ^ 40 := by
            rw [Int.natAbs_mul]
            have : v.q.natAbs ≤ 6 := by omega
            have := Nat.mul_le_mul (Nat.le_of_lt h2) this
            omega
          refine ⟨_, rfl, _, rfl, _, _, rfl, rfl, mul3 (by omega) (by omega), _, rfl, _, rfl, _, _, rfl, rfl, mul3 (by omega) (by omega), _, _, rfl, rfl, ?_⟩
          refine ⟨_, rfl, _, _, rfl, rfl, wide_div (b := 2) (by decide) (by decide) (by decide) (by decide), _, rfl, _, _, rfl, rfl, mul3 (by omega) (by omega), _, rfl, _, _, rfl, rfl, mul3 h3 (by omega), _, _, rfl, ?_⟩
          have no : satB (f (i * n + j)) (xOf fs i - xOf fs j) = false → ∀ H', Same H4 H' → Q (.bl false) H' := fun e9 H' s9 => by
            have := q H' (s1.trans (s4.trans s9))
            have z : inB n f (xOf fs) = false := by
              refine Bool.eq_false_iff.mpr fun y => ?_
              have := inB_iff.mp y i j hi hj
              rw [e9] at this; cases this
            rwa [z] at this
          have yes : satB (f (i * n + j)) (xOf fs i - xOf fs j) = true → ∀ c, c < j + 1 → satB (f (i * n + c)) (xOf fs i - xOf fs c) = true := fun e9 c hc => by
            by_cases y : c = j
            · rw [y]; exact e9
            · exact S4 c (by omega)
          refine ⟨_, rfl, _, rfl, _, _, rfl, rfl, _, rfl, ite2 (fun e => ?_) (fun e => ?_)⟩
          · have e7 := of_decide_eq_true e
            rw [decide_eq_true (show v.p * w.q - w.p * v.q > f (i * n + j) / 2 * v.q * w.q from e7), Bool.true_or] at fsat
            exact no (by rw [← Bool.not_eq_true']; exact fsat.symm) _ (same_upd ht)
          · have e7 : ¬ (v.p * w.q - w.p * v.q > f (i * n + j) / 2 * v.q * w.q) := fun z => e (decide_eq_true z)
            rw [decide_eq_false e7, Bool.false_or] at fsat
            refine ⟨_, rfl, _, rfl, rfl, _, rfl, ite2 (fun e8 => ?_) (fun e8 => ?_)⟩
            · have e9 := V.int.inj (of_decide_eq_true e8)
              rw [decide_eq_true e9, Bool.true_and] at fsat
              refine ⟨_, rfl, _, _, rfl, rfl, (show (2 : Int) ≠ 0 by decide), rfl, _, rfl, ?_⟩
              have ed : decide (V.int (f (i * n + j) % 2) = V.int 0) = decide (f (i * n + j) % 2 = 0) := decide_eq_decide.mpr ⟨V.int.inj, fun y => by rw [y]⟩
              have eqb : decide (V.int ((f (i * n + j)).fmod 2) = V.int 0) = !satB (f (i * n + j)) (xOf fs i - xOf fs j) := by rw [Int.fmod_eq_emod_of_nonneg _ (by decide), ed, fsat]
              refine ite2 (fun e10 => ?_) (fun e10 => ?_)
              · exact no (by have := eqb.symm.trans e10; rwa [Bool.not_eq_true'] at this) _ (same_upd ht)
              · refine ⟨_, _, _, _, _, _, _, _, rfl, s5, yes ?_⟩
                cases hh : satB (f (i * n + j)) (xOf fs i - xOf fs j) with
                | true => rfl
                | false => exact absurd (eqb.trans (by rw [hh]; rfl)) e10
            · have e9 : ¬ (v.p * w.q - w.p * v.q = f (i * n + j) / 2 * v.q * w.q) := fun z => e8 (decide_eq_true (congrArg V.int z))
              rw [decide_eq_false e9, Bool.false_and] at fsat
              refine ⟨_, _, _, _, _, _, _, _, rfl, s5, yes ?_⟩
              cases hh : satB (f (i * n + j)) (xOf fs i - xOf fs j) with
              | true => rfl
              | false => rw [hh] at fsat; cases fsat
        · have hb : f (i * n + j) = 1000000 := by
            refine Decidable.byContradiction fun y => e ?_
            show (!decide (V.int (f (i * n + j)) = V.int 1000000)) = true
            rw [decide_eq_false (fun z => y (V.int.inj z))]; rfl
          refine ⟨_, _, _, _, _, _, _, _, rfl, s4, fun c hc => ?_⟩
          by_cases y : c = j
          · rw [y, hb]; exact sat_far _
          · exact S4 c (by omega)
      · rintro σ H4 ⟨u5, u6, u7, u8, u9, u10, u11, u12, rfl, s4, S4⟩
        rw [Int.toNat_natCast] at S4
        refine ⟨_, _, _, _, _, _, _, _, _, rfl, s4, fun r c hr2 hc => ?_⟩
        by_cases y : r = i
        · rw [y]; exact S4 c hc
        · exact S3 r c (by omega) hc
    · rintro σ H3 ⟨u4, u5, u6, u7, u8, u9, u10, u11, u12, rfl, s3, S3⟩
      rw [Int.toNat_natCast] at S3
      have := q H3 (s1.trans s3)
      rw [inB_iff.mpr fun r c hr2 hc => S3 r c hr2 hc] at this
      exact this
/-- is_in_zone(zone, values) -/
def spIn : Sp := fun vs H Q _ => ∃ (v : V) (g : Addr) (n : Nat) (B : Int) (f : Nat → Int) (fs : List Fv), vs = [v, .ref g] ∧ ZnAt H v n B f ∧ FracsAt H g fs ∧ fs.length = n - 1 ∧ ∀ H', Same H H' → Q (.bl (inB n f (xOf fs))) H'
theorem Zn.bd {n : Nat} {B : Int} {f : Nat → Int} (z : Zn n B f) : BdN (n * n) 25 f := fun i hi => by
  obtain ⟨r, c, hc, rfl⟩ := ix_of n i (by have := z.two; omega)
  have hr : r < n := by
    refine Nat.lt_of_not_le fun y => ?_
    have := Nat.mul_le_mul_right n y
    omega
  have := z.ok hr hc
  have := z.lim
  unfold Ok at *
  omega
theorem ok_in (T : Txt K mg A D) : FnG P w K mg base CX0 6 (A 21) (D 21) ["zone", "values"] spIn := by
  have G_check_zone := ok_check (P := P) (w := w) (base := base) T
  have G_side_of := ok_side (P := P) (w := w) (base := base) T
  have G_is_fraction := ok_frac (P := P) (w := w) (base := base) T
  have G_has_values := ok_has (P := P) (w := w) (base := base) T
  refine def_ok0 T.F_is_in_zone sc_is_in_zone (fun vs H Q E h => ?_) (fun cdv Ar outer s H vs Q E hr hG h => ?_)
  · obtain ⟨v, g, n, B, f, fs, rfl, _⟩ := h; rfl
  · obtain ⟨v, g, n, B, f, fs, rfl, hz, hf, lf, q⟩ := h
    refine ⟨_, (pss_cons (ps_expr (pe_cg G_check_zone (hr.mono (by first | decide | omega)) hG (by rfl) T.g_check_zone T.F_check_zone.kp T.b_check_zone pass0 (pa_cons (pv 0) pa_nil)))
      (pss_cons (ps_if (PW.pt (pw_or (pt_not (pt_val (pe_callB call_isi (by rfl) T.n_isinstance (by decide +kernel) (pa_cons (pv 1) (pa_cons (pe_bltn (v := .ty "tuple") (by rfl) T.n_tuple (by decide +kernel) rfl) pa_nil))))) (pw_or1 (pt_cmpR op_ne (pe_callB call_len_seq (by rfl) T.n_len PySem.boot_len (pa_cons (pv 1) pa_nil)) (pe_op op_sub (pe_cg G_side_of (hr.mono (by first | decide | omega)) hG (by rfl) T.g_side_of T.F_side_of.kp T.b_side_of pass0 (pa_cons (pv 0) pa_nil)) pe_int) (nomark _))))) (pss_one ps_never) pss_nil)
      (pss_cons (ps_if (pt_not (pt_val (pe_callB (cr_all rfl) (by rfl) T.n_all (by decide +kernel) (pa_cons (pe_lc (own := [("one", 2)]) (g := gName 2) (tt := tYes) (by rfl) sc_is_in_zone.nd (pi_tup (pv 1)) (blkOk_by (own := [("one", 2)]) (N := ["zone", "values", "one"]) (sc := defScope s_is_in_zone) (by decide +kernel)) (fun _ _ _ _ _ => pg_name (i := 2) sc_is_in_zone.nd rfl (by first | exact Or.inl rfl | exact Or.inr rfl | exact Or.inr (Or.inl rfl))) (fun _ _ _ _ _ => pts_nil) (fun _ _ _ _ _ => (pe_cg G_is_fraction (hr.mono (by first | decide | omega)) hG (by rfl) T.g_is_fraction T.F_is_fraction.kp T.b_is_fraction pass0 (pa_cons (pv 2) pa_nil)))) pa_nil)))) (pss_one ps_never) pss_nil)
      (pss_one (ps_ret (pe_cg G_has_values (hr.mono (by first | decide | omega)) hG (by rfl) T.g_has_values T.F_has_values.kp T.b_has_values pass0 (pa_cons (pv 0) (pa_cons (pv 1) pa_nil)))))))), ?_⟩
    refine ⟨v, rfl, v, n, B, f, rfl, hz, fun H1 s1 => ?_⟩
    obtain ⟨a, rfl, ha, z⟩ := hz
    have two := z.two
    have four := z.four
    have hg := (hf.same s1).1
    obtain ⟨ty, kt, et⟩ := kTup (K := K) hg
    refine ⟨_, rfl, _, .ty "tuple", ty, _, _, rfl, .ty _, kt, et, _, rfl, ?_⟩
    refine ⟨_, rfl, g, _, rfl, .inr (SqT.of hg), _, rfl, a, tab n f, n, rfl, s1 _ _ ha, tab_len n f, by omega, by omega, _, _, rfl, rfl, rfl, _, rfl, ite2 (fun e => absurd e ?_) fun _ => ?_⟩
    · have : V.int (((fs.map fun v => V.ref v.a).length : Nat) : Int) = V.int ((n : Int) - 1) := by
        rw [List.length_map, lf]
        congr 1
        omega
      show ¬ (!decide (V.int (((fs.map fun v => V.ref v.a).length : Nat) : Int) = V.int ((n : Int) - 1))) = true
      rw [decide_eq_true this]; decide
    · refine ⟨_, rfl, g, rfl, ⟨_, SqT.of hg⟩, fun D1 hD1 => lcW_tup (ys := fs) (fun v => V.ref v.a) (fun v => V.bl true) hD1 hg (by rw [sizeLine_eq]; omega) (fun v hv H2 Q2 s2 k2 => ?_) (fun H2 s2 h2 => ⟨D1, fs.map fun _ => true, rfl, SqL.of (by rw [h2, List.map_map]; rfl), _, rfl, ?_⟩)⟩
      · obtain ⟨v1, v2, v3, v4, v5, v6⟩ := (hf.same s1).2 v hv
        refine ⟨_, rfl, v.a, v.p, v.q, rfl, s2 _ _ v1, ?_⟩
        rw [decide_eq_true (show v.q ≥ 1 from v3), decide_eq_true v6]
        exact k2 _ (Same.refl _)
      · have z1 : (fs.map fun _ => true).all id = true := by
          rw [List.all_map, List.all_eq_true]; intro x _; rfl
        rw [z1]
        refine ite2 (fun e => absurd e (by decide)) fun _ => ?_
        have s12 := s1.trans s2
        exact ⟨_, rfl, _, rfl, a, g, n, f, fs, rfl, s12 _ _ ha, two, four, z.bd, hf.same s12, lf, fun H3 s3 => q H3 (s12.trans s3)⟩
end
end My

namespace My
open PySem PySem.Spec PyProof.Rows L2
theorem word_cmp (w : GRow) : (if false = true then !inV (.str w.word) (comparesW.map V.str) else inV (.str w.word) (comparesW.map V.str)) = true := by
  obtain ⟨k, u, r, n⟩ := w
  cases u <;> cases r <;> rfl
/-- are_bounds(many, value) of a guard -/
def spAreB : Sp := fun vs H Q _ => ∃ (m : Nat) (g : Addr) (ps : List (Addr × GRow)), vs = [.int ((m : Int) - 1), .ref g] ∧ m ≤ 100 ∧ GuardAt H g ps ∧ ps.length ≤ 1000 ∧ (∀ p ∈ ps, p.2.okFor m) ∧ ∀ H', Same H H' → Q (.bl true) H'
theorem guards_gb {n : Nat} {f : Nat → Int} : ∀ (ws : List GRow) (g : Nat → Int), GB n f g → (∀ w ∈ ws, w.okFor n) → GB n f (guardsF n g ws)
  | [], _, h, _ => h
  | w :: ws, g, h, ok => guards_gb ws (guard1 n g w) (h.guard (ok w List.mem_cons_self)) fun v hv => ok v (List.mem_cons_of_mem _ hv)
/-- zone_with(zone, guard), the zone one that time has passed in -/
def spWith : Sp := fun vs H Q _ => ∃ (v : V) (g : Addr) (n : Nat) (B : Int) (f : Nat → Int) (ps : List (Addr × GRow)), vs = [v, .ref g] ∧ ZnAt H v n B f ∧ B ≤ 4900 ∧ (∀ i, 0 < i → i < n → f (i * n + 0) = 1000000) ∧ GuardAt H g ps ∧ ps.length ≤ 1000 ∧ (∀ p ∈ ps, p.2.okFor n) ∧
  ((∃ i, i < n ∧ fwF n n (guardsF n f (ps.map (·.2))) (i * n + i) < 1) → ∀ H', Same H H' → Q .non H') ∧
  ((∀ i, i < n → 1 ≤ fwF n n (guardsF n f (ps.map (·.2))) (i * n + i)) → ∀ p H', Same H H' → H p = none → ZnAt H' (.ref p) n (B + 600) (fwF n n (guardsF n f (ps.map (·.2)))) → Q (.ref p) H')
/-- zone_set(zone, places) -/
def spSet : Sp := fun vs H Q _ => ∃ (v : V) (g : Addr) (n : Nat) (B : Int) (f : Nat → Int) (ks : List Nat), vs = [v, .ref g] ∧ ZnAt H v n B f ∧ H g = some (.tup (ks.map fun (k : Nat) => V.int (k : Int))) ∧ ks.length ≤ 1000 ∧ (∀ k ∈ ks, k + 1 < n) ∧
  ∀ p H', Same H H' → H p = none → ZnAt H' (.ref p) n B (ks.foldl (fun f k => setF n (1 + k) f) f) → Q (.ref p) H'
theorem Zn.sets {n : Nat} {B : Int} : ∀ (ks : List Nat) (f : Nat → Int), Zn n B f → Zn n B (ks.foldl (fun f k => setF n (1 + k) f) f)
  | [], _, h => h
  | k :: ks, f, h => Zn.sets ks _ (h.set (1 + k) (by omega))
theorem all_true {α : Type} (l : List α) : (l.map fun _ => true).all id = true := by
  rw [List.all_map, List.all_eq_true]; intro x _; rfl
section
variable {P : Program} {w : World} {K : PySem.W.Frag} {mg : Str → Option Value} {base : Heap} {A : Nat → Addr} {D : Nat → FuncData}
theorem ok_areb (T : Txt K mg A D) : FnG P w K mg base CX0 3 (A 18) (D 18) ["many", "value"] spAreB := by
  have G_is_between := ok_between (P := P) (w := w) (base := base) T
  refine def_ok0 T.F_are_bounds sc_are_bounds (fun vs H Q E h => ?_) (fun cdv Ar outer s H vs Q E hr hG h => ?_)
  · obtain ⟨m, g, ps, rfl, _⟩ := h; rfl
  · obtain ⟨m, g, ps, rfl, m1, hg, lp, ok, q⟩ := h
    refine ⟨_, (pss_cons (ps_if (PW.pt (pw_or (pt_not (pt_val (pe_callB call_isi (by rfl) T.n_isinstance (by decide +kernel) (pa_cons (pv 1) (pa_cons (pe_bltn (v := .ty "tuple") (by rfl) T.n_tuple (by decide +kernel) rfl) pa_nil))))) (pw_or1 (pt_not (pt_val (pe_callB (cr_all rfl) (by rfl) T.n_all (by decide +kernel) (pa_cons (pe_lc (own := [("row", 2)]) (g := gName 2) (tt := tYes) (by rfl) sc_are_bounds.nd (pi_tup (pv 1)) (blkOk_by (own := [("row", 2)]) (N := ["many", "value", "row"]) (sc := defScope s_are_bounds) (by decide +kernel)) (fun _ _ _ _ _ => pg_name (i := 2) sc_are_bounds.nd rfl (by first | exact Or.inl rfl | exact Or.inr rfl | exact Or.inr (Or.inl rfl))) (fun _ _ _ _ _ => pts_nil) (fun _ _ _ _ _ => (pe_and (pe_callB (id := "isinstance") (call_isiX (K := K)) (by rfl) T.n_isinstance (by decide +kernel) (pa_cons (pv 2) (pa_cons (pe_bltn (v := .ty "tuple") (by rfl) T.n_tuple (by decide +kernel) rfl) pa_nil))) (pe_one (pe_cmpR op_eq (pe_callB (id := "len") (call_len_seqX (K := K)) (by rfl) T.n_len PySem.boot_len (pa_cons (pv 2) pa_nil)) pe_int (nomark _)))))) pa_nil))))))) (pss_one (ps_ret pe_bl)) pss_nil)
      (pss_cons (ps_if (pt_not (pt_val (pe_callB (cr_all rfl) (by rfl) T.n_all (by decide +kernel) (pa_cons (pe_lc (own := [("row", 2)]) (g := gName 2) (tt := tYes) (by rfl) sc_are_bounds.nd (pi_tup (pv 1)) (blkOk_by (own := [("row", 2)]) (N := ["many", "value", "row"]) (sc := defScope s_are_bounds) (by decide +kernel)) (fun _ _ _ _ _ => pg_name (i := 2) sc_are_bounds.nd rfl (by first | exact Or.inl rfl | exact Or.inr rfl | exact Or.inr (Or.inl rfl))) (fun _ _ _ _ _ => pts_nil) (fun _ _ _ _ _ => (pe_and (pe_callB (id := "isinstance") (call_isiX (K := K)) (by rfl) T.n_isinstance (by decide +kernel) (pa_cons (pe_ix (ix_tupX (K := K)) (pv 2) pe_int (fun _ _ => rfl)) (pa_cons (pe_bltn (v := .ty "str") (by rfl) T.n_str (by decide +kernel) rfl) pa_nil))) (pe_one (pe_cmpR (op_in_seqX (K := K)) (pe_ix (ix_tupX (K := K)) (pv 2) pe_int (fun _ _ => rfl)) (pe_gl T.c_COMPARES) (by rfl)))))) pa_nil)))) (pss_one (ps_ret pe_bl)) pss_nil)
      (pss_one (ps_ret (pe_callB (cr_all rfl) (by rfl) T.n_all (by decide +kernel) (pa_cons (pe_lc (own := [("row", 2)]) (g := gName 2) (tt := tYes) (by rfl) sc_are_bounds.nd (pi_tup (pv 1)) (blkOk_by (own := [("row", 2)]) (N := ["many", "value", "row"]) (sc := defScope s_are_bounds) (by decide +kernel)) (fun _ _ _ _ _ => pg_name (i := 2) sc_are_bounds.nd rfl (by first | exact Or.inl rfl | exact Or.inr rfl | exact Or.inr (Or.inl rfl))) (fun _ _ _ _ _ => pts_nil) (fun _ _ _ _ _ => (pe_and (pe_cg G_is_between (hr.mono (by first | decide | omega)) hG (by rfl) T.g_is_between T.F_is_between.kp T.b_is_between pass0 (pa_cons (pe_ix (ix_tupX (K := K)) (pv 2) pe_int (fun _ _ => rfl)) (pa_cons pe_int (pa_cons (pe_op op_sub (pv 0) pe_int) pa_nil)))) (pe_one (pe_cg G_is_between (hr.mono (by first | decide | omega)) hG (by rfl) T.g_is_between T.F_is_between.kp T.b_is_between pass0 (pa_cons (pe_ix (ix_tupX (K := K)) (pv 2) pe_int (fun _ _ => rfl)) (pa_cons pe_int (pa_cons (pe_gl T.c_MOST_MOMENT) pa_nil)))))))) pa_nil)))))), ?_⟩
    obtain ⟨ty, kt, et⟩ := kTup (K := K) hg.1
    have lz : ps.length < sizeLine := by rw [sizeLine_eq]; omega
    refine ⟨_, rfl, _, .ty "tuple", ty, _, _, rfl, .ty _, kt, et, _, rfl, ?_⟩
    refine ⟨_, rfl, g, rfl, ⟨_, SqT.of hg.1⟩, fun D1 hD1 => lcW_tup (ys := ps) (fun p => V.ref p.1) (fun _ => V.bl true) hD1 hg.1 lz (fun p hp H2 Q2 s2 k2 => ?_) (fun H2 s2 h2 => ⟨D1, ps.map fun _ => true, rfl, SqL.of (by rw [h2, List.map_map]; rfl), _, rfl, ?_⟩)⟩
    · have hr2 := s2 _ _ (hg.2 p hp)
      obtain ⟨ty2, kt2, et2⟩ := kTup (K := K) hr2
      exact ⟨_, rfl, _, .ty "tuple", ty2, _, _, rfl, .ty _, kt2, et2, _, rfl, _, rfl, p.1, _, rfl, .inr (SqT.of hr2), rfl, k2 _ (Same.refl _)⟩
    · rw [all_true]
      refine ite2 (fun e => absurd e (by decide)) fun _ => ?_
      have hg2 := hg.same s2
      refine ⟨_, rfl, g, rfl, ⟨_, SqT.of hg2.1⟩, fun D2 hD2 => lcW_tup (ys := ps) (fun p => V.ref p.1) (fun _ => V.bl true) hD2 hg2.1 lz (fun p hp H3 Q3 s3 k3 => ?_) (fun H3 s3 h3 => ⟨D2, ps.map fun _ => true, rfl, SqL.of (by rw [h3, List.map_map]; rfl), _, rfl, ?_⟩)⟩
      · have hr3 := s3 _ _ (hg2.2 p hp)
        obtain ⟨ty2, kt2, et2⟩ := (Known.str (H := H3) p.2.word).kStr (K := K)
        refine ⟨_, rfl, p.1, _, 1, .str p.2.word, rfl, rfl, SqT.of hr3, atI_nat (j := 1) rfl, _, .ty "str", ty2, _, _, rfl, .ty _, kt2, et2, _, rfl, _, rfl, p.1, _, 1, .str p.2.word, rfl, rfl, SqT.of hr3, atI_nat (j := 1) rfl, A 100, _, rfl, .inr (T.t_COMPARES _), rfl, rfl, ?_⟩
        rw [word_cmp]
        exact k3 _ (Same.refl _)
      · rw [all_true]
        refine ite2 (fun e => absurd e (by decide)) fun _ => ?_
        have hg3 := hg2.same s3
        refine ⟨_, rfl, g, rfl, ⟨_, SqT.of hg3.1⟩, fun D3 hD3 => lcW_tup (ys := ps) (fun p => V.ref p.1) (fun _ => V.bl true) hD3 hg3.1 lz (fun p hp H4 Q4 s4 k4 => ?_) (fun H4 s4 h4 => ⟨D3, ps.map fun _ => true, rfl, SqL.of (by rw [h4, List.map_map]; rfl), ?_⟩)⟩
        · have hr4 := s4 _ _ (hg3.2 p hp)
          obtain ⟨o1, o2, o3⟩ := ok p hp
          refine ⟨_, rfl, p.1, _, 0, .int (p.2.k : Int), rfl, rfl, SqT.of hr4, atI_nat (j := 0) rfl, _, rfl, _, _, rfl, rfl, _, _, _, rfl, _, rfl, ?_⟩
          rw [decide_eq_true (show (0 : Int) ≤ (p.2.k : Int) by omega), decide_eq_true (show (p.2.k : Int) ≤ (m : Int) - 1 - 1 by omega)]
          refine ⟨_, rfl, p.1, _, 2, .int p.2.num, rfl, rfl, SqT.of hr4, atI_nat (j := 2) rfl, _, _, _, rfl, ?_⟩
          rw [decide_eq_true o2, decide_eq_true o3]
          exact k4 _ (Same.refl _)
        · rw [all_true]
          exact q _ ((s2.trans s3).trans s4)
theorem ok_with (T : Txt K mg A D) : FnG P w K mg base CX0 6 (A 19) (D 19) ["zone", "guard"] spWith := by
  have G_check_zone := ok_check (P := P) (w := w) (base := base) T
  have G_side_of := ok_side (P := P) (w := w) (base := base) T
  have G_are_bounds := ok_areb (P := P) (w := w) (base := base) T
  have G_guarded := ok_guarded (P := P) (w := w) (base := base) T
  refine def_ok0 T.F_zone_with sc_zone_with (fun vs H Q E h => ?_) (fun cdv Ar outer s H vs Q E hr hG h => ?_)
  · obtain ⟨v, g, n, B, f, ps, rfl, _⟩ := h; rfl
  · obtain ⟨v, g, n, B, f, ps, rfl, hz, hB, fl, hg, lp, ok, qn, qy⟩ := h
    refine ⟨_, (pss_cons (ps_expr (pe_cg G_check_zone (hr.mono (by first | decide | omega)) hG (by rfl) T.g_check_zone T.F_check_zone.kp T.b_check_zone pass0 (pa_cons (pv 0) pa_nil)))
      (pss_cons (ps_set (i := 2) sc_zone_with.nd rfl (Or.inl rfl) (pe_op op_sub (pe_cg G_side_of (hr.mono (by first | decide | omega)) hG (by rfl) T.g_side_of T.F_side_of.kp T.b_side_of pass0 (pa_cons (pv 0) pa_nil)) pe_int))
      (pss_cons (ps_if (pt_not (pt_val (pe_cg G_are_bounds (hr.mono (by first | decide | omega)) hG (by rfl) T.g_are_bounds T.F_are_bounds.kp T.b_are_bounds pass0 (pa_cons (pv 2) (pa_cons (pv 1) pa_nil))))) (pss_one ps_never) pss_nil)
      (pss_cons (ps_set (i := 3) sc_zone_with.nd rfl (Or.inl rfl) (pe_cg G_guarded (hr.mono (by first | decide | omega)) hG (by rfl) T.g_guarded T.F_guarded.kp T.b_guarded pass0 (pa_cons (pv 0) (pa_cons (pe_listRg rfl (by rfl) T.n_list (prg_1 (by rfl) T.n_range (pv 2))) (pa_cons (pv 1) pa_nil)))))
      (pss_cons (ps_if (PW.pt (pw_and (pt_cmpR op_notN (pv 3) pe_non (nomark _)) (pw_and1 (pt_val (pe_callB (cr_any rfl) (by rfl) T.n_any (by decide +kernel) (pa_cons (pe_lc (own := [("bound", 4)]) (g := gName 4) (tt := tYes) (by rfl) sc_zone_with.nd (pi_tup (pv 3)) (blkOk_by (own := [("bound", 4)]) (N := ["zone", "guard", "many", "found", "bound"]) (sc := defScope s_zone_with) (by decide +kernel)) (fun _ _ _ _ _ => pg_name (i := 4) sc_zone_with.nd rfl (by first | exact Or.inl rfl | exact Or.inr rfl | exact Or.inr (Or.inl rfl))) (fun _ _ _ _ _ => pts_nil) (fun _ _ _ _ _ => (pe_and (pe_cmpR op_ne (pv 4) (pe_gl T.c_FAR) (nomark _)) (pe_one (pe_cmpR op_gt (pe_callB call_abs (by rfl) T.n_abs (by decide +kernel) (pa_cons (pv 4) pa_nil)) (pe_gl T.c_MOST_BOUND) (nomark _)))))) pa_nil)))))) (pss_one ps_never) pss_nil)
      (pss_one (ps_ret (pv 3)))))))), ?_⟩
    refine ⟨v, rfl, v, n, B, f, rfl, hz, fun H1 s1 => ?_⟩
    obtain ⟨a, rfl, ha, z⟩ := hz
    have two := z.two
    have four := z.four
    refine ⟨_, rfl, a, tab n f, n, rfl, s1 _ _ ha, tab_len n f, by omega, by omega, _, _, rfl, rfl, ?_⟩
    refine ⟨_, rfl, _, rfl, n, g, ps, rfl, by omega, hg.same s1, lp, ok, fun H2 s2 => ⟨_, rfl, ?_⟩⟩
    have s12 := s1.trans s2
    refine ite2 (fun e => absurd e (by decide)) fun _ => ?_
    refine ⟨_, rfl, _, rfl, _, rfl, RgOk.of_le (by decide) (by omega) (by decide) (by omega), fun c hc => ?_⟩
    have sc := s12.trans (same_upd (o := .lst (rgV 0 ((n : Int) - 1))) hc)
    refine ⟨_, rfl, a, c, g, n, f, ps, rfl, sc _ _ ha, upd_same, hg.same sc, two, four, z.bd, ok, fun y H4 s4 => ?_, fun y p H4 s4 np h4 => ?_⟩
    · refine ⟨_, rfl, rfl, _, rfl, ?_⟩
      exact ⟨_, rfl, qn y H4 (sc.trans s4)⟩
    · have zk : Zn n (B + 600) (fwF n n (guardsF n f (ps.map (·.2)))) := kept_zn z hB fl (guards_gb _ _ (.refl n f) fun w hw => by
        obtain ⟨x, hx, rfl⟩ := List.mem_map.mp hw
        exact ok x hx) y
      obtain ⟨F, hF⟩ : ∃ F, F = fwF n n (guardsF n f (ps.map (·.2))) := ⟨_, rfl⟩
      rw [← hF] at h4 zk qy y
      have bF : ∀ i, i < n * n → F i = 1000000 ∨ (F i).natAbs ≤ 200000 := fun i hi => by
        obtain ⟨r, c, hc, rfl⟩ := ix_of n i (by omega)
        have hr : r < n := by
          refine Nat.lt_of_not_le fun y => ?_
          have := Nat.mul_le_mul_right n y
          omega
        have := zk.ok hr hc
        unfold Ok at this
        omega
      have nn : n * n ≤ 16 := Nat.mul_le_mul four four
      refine ⟨_, rfl, rfl, _, rfl, ?_⟩
      refine ite2 (fun _ => ?_) (fun e => absurd (by rfl) e)
      refine ⟨_, rfl, p, rfl, ⟨_, SqT.of h4⟩, fun D1 hD1 => lcW_tup (ys := List.range (n * n)) (fun i => V.int (F i)) (fun _ => V.bl false) hD1 h4 (by rw [List.length_range, sizeLine_eq]; omega) (fun i hi H5 Q5 s5 k5 => ?_) (fun H5 s5 h5 => ⟨D1, (List.range (n * n)).map fun _ => false, rfl, SqL.of (by rw [h5, List.map_map]; rfl), _, rfl, ?_⟩)⟩
      · refine ⟨_, rfl, rfl, _, rfl, ?_⟩
        have b := bF i (List.mem_range.mp hi)
        by_cases x : F i = 1000000
        · rw [x]
          exact k5 _ (Same.refl _)
        · refine ite2 (fun _ => ?_) (fun e => absurd ?_ e)
          · refine ⟨_, rfl, _, rfl, _, _, rfl, rfl, ?_⟩
            have e3 : decide ((200000 : Int) < (if F i < 0 then -(F i) else F i)) = false := decide_eq_false (by split <;> omega)
            show Q5 (V.bl (decide ((200000 : Int) < (if F i < 0 then -(F i) else F i)))) H5
            rw [e3]
            exact k5 _ (Same.refl _)
          · show (!decide (V.int (F i) = V.int 1000000)) = true
            rw [decide_eq_false (fun z => x (V.int.inj z))]; rfl
      · have z1 : ((List.range (n * n)).map fun _ => false).any id = false := by
          rw [List.any_map, List.any_eq_false]; intro x _; simp
        rw [z1]
        refine ite2 (fun e => Bool.noConfusion e) fun _ => ⟨_, rfl, qy y p H5 ((sc.trans s4).trans s5) (sc.free np) ⟨p, rfl, s5 _ _ h4, zk⟩⟩
theorem ok_set (T : Txt K mg A D) : FnG P w K mg base CX0 6 (A 20) (D 20) ["zone", "places"] spSet := by
  have G_check_zone := ok_check (P := P) (w := w) (base := base) T
  have G_side_of := ok_side (P := P) (w := w) (base := base) T
  have G_is_between := ok_between (P := P) (w := w) (base := base) T
  have G_set_back := ok_setb (P := P) (w := w) (base := base) T
  refine def_ok0 T.F_zone_set sc_zone_set (fun vs H Q E h => ?_) (fun cdv Ar outer s H vs Q E hr hG h => ?_)
  · obtain ⟨v, g, n, B, f, ks, rfl, _⟩ := h; rfl
  · obtain ⟨v, g, n, B, f, ks, rfl, hz, hg, lp, ok, q⟩ := h
    refine ⟨_, (pss_cons (ps_expr (pe_cg G_check_zone (hr.mono (by first | decide | omega)) hG (by rfl) T.g_check_zone T.F_check_zone.kp T.b_check_zone pass0 (pa_cons (pv 0) pa_nil)))
      (pss_cons (ps_set (i := 2) sc_zone_set.nd rfl (Or.inr rfl) (pe_op op_sub (pe_cg G_side_of (hr.mono (by first | decide | omega)) hG (by rfl) T.g_side_of T.F_side_of.kp T.b_side_of pass0 (pa_cons (pv 0) pa_nil)) pe_int))
      (pss_cons (ps_if (PW.pt (pw_or (pt_not (pt_val (pe_callB call_isi (by rfl) T.n_isinstance (by decide +kernel) (pa_cons (pv 1) (pa_cons (pe_bltn (v := .ty "tuple") (by rfl) T.n_tuple (by decide +kernel) rfl) pa_nil))))) (pw_or1 (pt_not (pt_val (pe_callB (cr_all rfl) (by rfl) T.n_all (by decide +kernel) (pa_cons (pe_lc (own := [("place", 3)]) (g := gName 3) (tt := tYes) (by rfl) sc_zone_set.nd (pi_tup (pv 1)) (blkOk_by (own := [("place", 3)]) (N := ["zone", "places", "many", "place"]) (sc := defScope s_zone_set) (by decide +kernel)) (fun _ _ _ _ _ => pg_name (i := 3) sc_zone_set.nd rfl (by first | exact Or.inl rfl | exact Or.inr rfl | exact Or.inr (Or.inl rfl))) (fun _ _ _ _ _ => pts_nil) (fun _ _ _ _ _ => (pe_cg G_is_between (hr.mono (by first | decide | omega)) hG (by rfl) T.g_is_between T.F_is_between.kp T.b_is_between pass0 (pa_cons (pv 3) (pa_cons pe_int (pa_cons (pe_op op_sub (pv 2) pe_int) pa_nil)))))) pa_nil))))))) (pss_one ps_never) pss_nil)
      (pss_one (ps_ret (pe_cg G_set_back (hr.mono (by first | decide | omega)) hG (by rfl) T.g_set_back T.F_set_back.kp T.b_set_back pass0 (pa_cons (pv 0) (pa_cons (pe_listRg rfl (by rfl) T.n_list (prg_1 (by rfl) T.n_range (pv 2))) (pa_cons (pv 1) pa_nil))))))))), ?_⟩
    refine ⟨v, rfl, v, n, B, f, rfl, hz, fun H1 s1 => ?_⟩
    obtain ⟨a, rfl, ha, z⟩ := hz
    have two := z.two
    have four := z.four
    refine ⟨_, rfl, a, tab n f, n, rfl, s1 _ _ ha, tab_len n f, by omega, by omega, _, _, rfl, rfl, ?_⟩
    obtain ⟨ty, kt, et⟩ := kTup (K := K) (s1 _ _ hg)
    refine ⟨_, rfl, _, .ty "tuple", ty, _, _, rfl, .ty _, kt, et, _, rfl, ?_⟩
    refine ite2 (fun e => absurd e (by decide)) fun _ => ?_
    have hg1 := s1 _ _ hg
    refine ⟨_, rfl, g, rfl, ⟨_, SqT.of hg1⟩, fun D1 hD1 => lcW_tup (ys := ks) (fun (k : Nat) => V.int (k : Int)) (fun _ => V.bl true) hD1 hg1 (by rw [sizeLine_eq]; omega) (fun k hk H5 Q5 s5 k5 => ?_) (fun H5 s5 h5 => ⟨D1, ks.map fun _ => true, rfl, SqL.of (by rw [h5, List.map_map]; rfl), _, rfl, ?_⟩)⟩
    · have := ok k hk
      refine ⟨_, rfl, _, rfl, _, _, rfl, rfl, _, _, _, rfl, ?_⟩
      rw [decide_eq_true (show (0 : Int) ≤ (k : Int) by omega), decide_eq_true (show (k : Int) ≤ (n : Int) - 1 - 1 by omega)]
      exact k5 _ (Same.refl _)
    · rw [all_true]
      refine ite2 (fun e => absurd e (by decide)) fun _ => ?_
      refine ⟨_, rfl, _, rfl, _, rfl, RgOk.of_le (by decide) (by omega) (by decide) (by omega), fun c hc => ?_⟩
      have sc := (s1.trans s5).trans (same_upd (o := .lst (rgV 0 ((n : Int) - 1))) hc)
      exact ⟨_, rfl, a, c, g, n, f, ks, rfl, sc _ _ ha, upd_same, sc _ _ hg, two, four, z.diag, ok, fun p H6 s6 np h6 => q p H6 (sc.trans s6) (sc.free np) ⟨p, rfl, h6, Zn.sets ks f z⟩⟩
end
end My

namespace My
open PySem PySem.Spec PyProof.Rows L2
/-- _law_side(zone) -/
def spLSide : Sp := fun vs H Q _ => ∃ (a : Addr) (xs : List V) (n : Nat), vs = [.ref a] ∧ H a = some (.tup xs) ∧ xs.length = n * n ∧ 2 ≤ n ∧ n ≤ 4 ∧ ∀ H', Same H H' → Q (.int n) H'
/-- _law_less(zone, row, column, by) -/
def spLess : Sp := fun vs H Q _ => ∃ (a : Addr) (n : Nat) (f : Nat → Int) (r c : Nat) (d : Int), vs = [.ref a, .int (r : Int), .int (c : Int), .int d] ∧ H a = some (.tup (tab n f)) ∧ 2 ≤ n ∧ n ≤ 4 ∧ BdN (n * n) 25 f ∧ r < n ∧ c < n ∧ ∀ H', Same H H' → Q (.bl (satB (f (r * n + c)) d)) H'
/-- the values behind 0 -/
def xI (zs : List Int) : Nat → Int := fun i => ((0 : Int) :: zs).getD i 0
/-- _law_in(zone, values) -/
def spLIn : Sp := fun vs H Q _ => ∃ (a g : Addr) (n : Nat) (f : Nat → Int) (zs : List Int), vs = [.ref a, .ref g] ∧ H a = some (.tup (tab n f)) ∧ H g = some (.lst (zs.map V.int)) ∧ zs.length = n - 1 ∧ 2 ≤ n ∧ n ≤ 4 ∧ BdN (n * n) 25 f ∧ ∀ H', Same H H' → Q (.bl (inB n f (xI zs))) H'
section
variable {P : Program} {w : World} {K : PySem.W.Frag} {mg : Str → Option Value} {base : Heap} {A : Nat → Addr} {D : Nat → FuncData}
theorem ok_lside (T : Txt K mg A D) : FnG P w K mg base CX0 1 (A 29) (D 29) ["zone"] spLSide := by
  refine def_ok0 T.F__law_side sc__law_side (fun vs H Q E h => ?_) (fun cdv Ar outer s H vs Q E hr hG h => ?_)
  · obtain ⟨a, xs, n, rfl, _⟩ := h; rfl
  · obtain ⟨a, xs, n, rfl, ha, hl, n2, n4, q⟩ := h
    refine ⟨_, (pss_one (ps_ret (pe_dget (Nat.lt_of_le_of_lt (Nat.add_le_add_left (by decide : 1 ≤ 64) _) hr.units) (pe_disp (pps_cons pe_int pe_int (pps_cons pe_int pe_int (pps_cons pe_int pe_int pps_nil))) (by rfl) (by rfl) (fun z => by cases z) (by decide)) (pe_callB call_len_seq (by rfl) T.n_len PySem.boot_len (pa_cons (pv 0) pa_nil)) (fun _ _ => rfl)))), ?_⟩
    refine fun p hp => ?_
    have s1 := same_upd (o := .dK []) hp
    refine ⟨upd_same, [(.inl 4, .int 2), (.inl 9, .int 3), (.inl 16, .int 4)], rfl, by decide, ?_⟩
    have s2 : Same H (upd (upd H p (.dK [])) p (.dK (mergeK [] [(.inl 4, .int 2), (.inl 9, .int 3), (.inl 16, .int 4)]))) := fun b o e => by
      rw [upd_ne (ne_of_none e hp)]; exact s1 b o e
    refine ⟨_, rfl, a, xs, rfl, .inr (SqT.of (s2 _ _ ha)), ?_⟩
    have c : n = 2 ∨ n = 3 ∨ n = 4 := by omega
    rcases c with rfl | rfl | rfl
    · exact ⟨p, .int 2, rfl, .inl ⟨_, .inl 4, .inl upd_same, by rw [hl]; rfl, rfl⟩, q _ s2⟩
    · exact ⟨p, .int 3, rfl, .inl ⟨_, .inl 9, .inl upd_same, by rw [hl]; rfl, rfl⟩, q _ s2⟩
    · exact ⟨p, .int 4, rfl, .inl ⟨_, .inl 16, .inl upd_same, by rw [hl]; rfl, rfl⟩, q _ s2⟩
theorem ok_less (T : Txt K mg A D) : FnG P w K mg base CX0 2 (A 28) (D 28) ["zone", "row", "column", "by"] spLess := by
  have G__law_side := ok_lside (P := P) (w := w) (base := base) T
  refine def_ok0 T.F__law_less sc__law_less (fun vs H Q E h => ?_) (fun cdv Ar outer s H vs Q E hr hG h => ?_)
  · obtain ⟨a, n, f, r, c, d, rfl, _⟩ := h; rfl
  · obtain ⟨a, n, f, r, c, d, rfl, ha, n2, n4, bd, hr1, hc1, q⟩ := h
    refine ⟨_, (pss_cons (ps_set (i := 4) sc__law_less.nd rfl (Or.inl rfl) (pe_ix ix_tup (pv 0) (pe_op op_add (pe_op op_mulW (pv 1) (pe_cg G__law_side (hr.mono (by first | decide | omega)) hG (by rfl) T.g__law_side T.F__law_side.kp T.b__law_side pass0 (pa_cons (pv 0) pa_nil))) (pv 2)) (fun _ _ => rfl)))
      (pss_cons (ps_set (i := 5) sc__law_less.nd rfl (Or.inl rfl) (pe_op op_mulW pe_int (pe_op op_fdivW (pv 4) pe_int)))
      (pss_one (ps_ret (pe_or (pe_cmpR op_eq (pv 4) pe_int (nomark _)) (pe_or (pe_cmpR op_lt (pv 3) (pv 5) (nomark _)) (pe_one (pe_and (pe_cmpR op_eq (pv 3) (pv 5) (nomark _)) (pe_one (pe_cmpR op_eq (pe_op op_modN (pv 4) pe_int) pe_int (nomark _))))))))))), ?_⟩
    refine ⟨_, rfl, _, rfl, _, rfl, a, tab n f, n, rfl, ha, tab_len n f, n2, n4, fun H1 s1 => ?_⟩
    have b := bd _ (ix_lt hr1 hc1)
    refine ⟨_, _, rfl, rfl, wide_mul (a := 20) (b := 20) (by omega) (by omega) (by decide) (by decide) (by decide), _, rfl, _, _, rfl, rfl, a, _, _, _, rfl, rfl, SqT.of (s1 _ _ ha), tab_at (ix_lt hr1 hc1) ixI, ?_⟩
    obtain ⟨e, he⟩ : ∃ e, e = f (r * n + c) := ⟨_, rfl⟩
    rw [← he] at b q ⊢
    have h2 : (e / 2).natAbs < 2 ^ 25 := by omega
    refine ⟨_, rfl, _, _, rfl, rfl, wide_div (b := 2) (by decide) (by decide) (by decide) (by decide), _, _, rfl, rfl, wide_mul (a := 20) (b := 25) (by decide) h2 (by decide) (by decide) (by decide), ?_⟩
    have q1 := q H1 s1
    have dv : ∀ x y : Int, decide (V.int x = V.int y) = decide (x = y) := fun x y => decide_eq_decide.mpr ⟨V.int.inj, fun y => by rw [y]⟩
    refine ⟨_, rfl, rfl, _, rfl, ?_⟩
    show if decide (V.int e = V.int 1000000) = true then _ else _
    rw [dv]
    by_cases e1 : e = 1000000
    · rw [if_pos (decide_eq_true e1)]
      have : satB e d = true := by rw [e1]; exact sat_far _
      rwa [this] at q1
    · rw [if_neg (by rw [decide_eq_false e1]; decide)]
      refine ⟨_, rfl, _, rfl, _, _, rfl, rfl, _, rfl, ?_⟩
      by_cases e2 : d < 6 * (e / 2)
      · rw [if_pos (decide_eq_true e2)]
        have : satB e d = true := sat_iff.mpr (.inr (.inl e2))
        rwa [this] at q1
      · rw [if_neg (by rw [decide_eq_false e2]; decide)]
        refine ⟨_, rfl, _, rfl, rfl, _, rfl, ?_⟩
        show if decide (V.int d = V.int (6 * (e / 2))) = true then _ else _
        rw [dv]
        by_cases e3 : d = 6 * (e / 2)
        · rw [if_pos (decide_eq_true e3)]
          refine ⟨_, rfl, _, _, rfl, rfl, (show (2 : Int) ≠ 0 by decide), rfl, ?_⟩
          show Q (V.bl (decide (V.int (e.fmod 2) = V.int 1))) H1
          rw [dv, Int.fmod_eq_emod_of_nonneg _ (by decide)]
          have : satB e d = decide (e % 2 = 1) := by
            unfold satB
            rw [decide_eq_false e1, decide_eq_false e2, decide_eq_true e3]; rfl
          rwa [this] at q1
        · rw [if_neg (by rw [decide_eq_false e3]; decide)]
          have : satB e d = false := by
            unfold satB
            rw [decide_eq_false e1, decide_eq_false e2, decide_eq_false e3]; rfl
          rwa [this] at q1
theorem ok_lin (T : Txt K mg A D) : FnG P w K mg base CX0 3 (A 30) (D 30) ["zone", "values"] spLIn := by
  have G__law_side := ok_lside (P := P) (w := w) (base := base) T
  have G__law_less := ok_less (P := P) (w := w) (base := base) T
  refine def_ok0 T.F__law_in sc__law_in (fun vs H Q E h => ?_) (fun cdv Ar outer s H vs Q E hr hG h => ?_)
  · obtain ⟨a, g, n, f, zs, rfl, _⟩ := h; rfl
  · obtain ⟨a, g, n, f, zs, rfl, ha, hg, lz, n2, n4, bd, q⟩ := h
    refine ⟨_, (pss_cons (ps_asg (pe_tup (pa_cons (pe_op op_cat (pe_lst (pa_cons pe_int pa_nil)) (pe_callTy call_list_of (by rfl) T.n_list (by decide +kernel) (pa_cons (pv 1) pa_nil))) (pa_cons (pe_cg G__law_side (hr.mono (by first | decide | omega)) hG (by rfl) T.g__law_side T.F__law_side.kp T.b__law_side pass0 (pa_cons (pv 0) pa_nil)) pa_nil))) (pg_tup rfl (pgs_cons (pg_name (i := 2) sc__law_in.nd rfl (Or.inr rfl)) (pgs_cons (pg_name (i := 3) sc__law_in.nd rfl (Or.inl rfl)) pgs_nil))))
      (pss_cons (ps_for (by first | exact PassesOwn.never | exact PassesOwn.leaving | exact L2.passes_of rfl) rfl (pi_range1 rfl T.n_range (pa_cons (pv 3) pa_nil)) (pg_name (i := 4) sc__law_in.nd rfl (Or.inr rfl)) (pss_one (ps_if (pt_not (pt_val (pe_callB (cr_all rfl) (by rfl) T.n_all (by decide +kernel) (pa_cons (pe_lc (own := [("column", 5)]) (g := gName 5) (tt := tYes) (by rfl) sc__law_in.nd (pi_range1 rfl T.n_range (pa_cons (pv 3) pa_nil)) (blkOk_by (own := [("column", 5)]) (N := ["zone", "values", "every", "side", "row", "column"]) (sc := defScope s__law_in) (by decide +kernel)) (fun _ _ _ _ _ => pg_name (i := 5) sc__law_in.nd rfl (by first | exact Or.inl rfl | exact Or.inr rfl | exact Or.inr (Or.inl rfl))) (fun _ _ _ _ _ => pts_nil) (fun _ _ _ _ _ => (pe_cg G__law_less (hr.mono (by first | decide | omega)) hG (by rfl) T.g__law_less T.F__law_less.kp T.b__law_less pass0 (pa_cons (pv 0) (pa_cons (pv 4) (pa_cons (pv 5) (pa_cons (pe_op op_sub (pe_ix (ix_listX (K := K)) (pv 2) (pv 4) (fun _ _ => rfl)) (pe_ix (ix_listX (K := K)) (pv 2) (pv 5) (fun _ _ => rfl))) pa_nil))))))) pa_nil)))) (pss_one (ps_ret pe_bl)) pss_nil)))
      (pss_one (ps_ret pe_bl)))), ?_⟩
    refine ⟨(by show 1 ≤ sizeLine; decide), fun l1 h1 => ?_⟩
    have s1 := same_upd (o := .lst [.int 0]) h1
    refine ⟨_, rfl, g, _, rfl, .inl (SqL.of (s1 _ _ hg)), fun l2 h2 => ?_⟩
    have s2 := fun o => same_upd (o := o) h2
    refine ⟨l1, l2, _, _, rfl, rfl, s2 _ _ _ upd_same, upd_same, ?_, fun l3 h3 => ?_⟩
    · rw [List.length_map, lz]
      exact sz_line (by show 1 + (n - 1) ≤ _; omega)
    have s3 := fun o => (s1.trans (s2 (.lst (zs.map V.int)))).trans (same_upd (o := o) h3)
    refine ⟨_, rfl, a, tab n f, n, rfl, s3 _ _ _ ha, tab_len n f, n2, n4, fun H4 s4 => ?_⟩
    have e4 : H4 l3 = some (.lst (((0 : Int) :: zs).map V.int)) := s4 _ _ upd_same
    refine ⟨(by show 2 ≤ sizeLine; decide), fun t ht => ?_⟩
    have s5 := fun o => same_upd (o := o) ht
    have s05 := fun o => (s3 _).trans (s4.trans (s5 o))
    refine ⟨t, _, rfl, SqT.of upd_same, rfl, _, _, rfl, _, _, rfl, rfl, ?_⟩
    have get : ∀ (H' : Hp) (r : Nat), Same H4 H' → r < n → SqL K H' l3 (((0 : Int) :: zs).map V.int) ∧ atI (((0 : Int) :: zs).map V.int) (0 + (r : Int)) = some (.int (xI zs r)) := fun H' r s hr3 => by
      refine ⟨SqL.of (s _ _ e4), ?_⟩
      have lr : r < ((0 : Int) :: zs).length := by rw [List.length_cons]; omega
      rw [Int.zero_add]
      refine atI_nat ?_
      rw [List.getElem?_map, List.getElem?_eq_getElem lr]
      show some (V.int _) = some (V.int (xI zs r))
      unfold xI
      rw [List.getD_eq_getElem?_getD, List.getElem?_eq_getElem lr]; rfl
    refine ⟨_, rfl, _, rfl, by omega, by omega, for_range (fun i σ H' => ∃ u4, σ = [some (.ref a), some (.ref g), some (.ref l3), some (.int n), u4, none] ∧ Same H4 H' ∧ ∀ r c, r < i → c < n → satB (f (r * n + c)) (xI zs r - xI zs c) = true) ⟨none, rfl, s5 _, fun r c h => absurd h (by omega)⟩ ?_ ?_⟩
    · rintro i σ H5 hi ⟨u4, rfl, s6, S⟩
      rw [Int.toNat_natCast] at hi
      have ha5 := s6 _ _ (s4 _ _ (s3 _ _ _ ha))
      refine ⟨_, rfl, _, rfl, by omega, by omega, fun D1 hD1 => lcV_range (fun c => V.bl (satB (f (i * n + c)) (xI zs i - xI zs c))) hD1 (by rw [Int.toNat_natCast, sizeLine_eq]; omega) (fun c hc H6 Q6 s7 k7 => ?_) (fun H6 s7 h7 => ?_)⟩
      · rw [Int.toNat_natCast] at hc
        obtain ⟨g1, g2⟩ := get H6 i (s6.trans s7) hi
        obtain ⟨g3, g4⟩ := get H6 c (s6.trans s7) hc
        refine ⟨_, rfl, _, rfl, _, rfl, _, rfl, _, rfl, l3, _, _, _, rfl, rfl, g1, g2, _, rfl, _, rfl, l3, _, _, _, rfl, rfl, g3, g4, _, _, rfl, rfl, ?_⟩
        exact ⟨a, n, f, i, c, xI zs i - xI zs c, by simp only [Int.zero_add]; rfl, s7 _ _ ha5, n2, n4, bd, hi, hc, k7⟩
      · rw [Int.toNat_natCast] at h7
        refine ⟨D1, (List.range n).map (fun c => satB (f (i * n + c)) (xI zs i - xI zs c)), rfl, SqL.of (by rw [h7, List.map_map]; rfl), _, rfl, ?_⟩
        have z1 : ((List.range n).map (fun c => satB (f (i * n + c)) (xI zs i - xI zs c))).all id = (List.range n).all (fun c => satB (f (i * n + c)) (xI zs i - xI zs c)) := by rw [List.all_map]; rfl
        rw [z1]
        cases hh : (List.range n).all (fun c => satB (f (i * n + c)) (xI zs i - xI zs c)) with
        | false =>
          have := q H6 ((s3 _).trans (s4.trans (s6.trans s7)))
          have z : inB n f (xI zs) = false := by
            refine Bool.eq_false_iff.mpr fun y => ?_
            have y2 := inB_iff.mp y
            have : (List.range n).all (fun c => satB (f (i * n + c)) (xI zs i - xI zs c)) = true := List.all_eq_true.mpr fun c hc => y2 i c hi (List.mem_range.mp hc)
            rw [hh] at this; cases this
          rw [z] at this
          exact this
        | true =>
          refine ⟨_, rfl, s6.trans s7, fun r c hr3 hc => ?_⟩
          by_cases y : r = i
          · rw [y]; exact List.all_eq_true.mp hh c (List.mem_range.mpr hc)
          · exact S r c (by omega) hc
    · rintro σ H5 ⟨u4, rfl, s6, S⟩
      rw [Int.toNat_natCast] at S
      have := q H5 ((s3 _).trans (s4.trans s6))
      rw [inB_iff.mpr fun r c hr2 hc => S r c hr2 hc] at this
      exact this
theorem ok_lsum (T : Txt K mg A D) : FnG P w K mg base CX0 1 (A 31) (D 31) ["one", "other"] spSum := by
  refine def_ok0 T.F__law_sum sc__law_sum (fun vs H Q E h => ?_) (fun cdv Ar outer s H vs Q E hr hG h => ?_)
  · obtain ⟨a, b, rfl, _⟩ := h; rfl
  · obtain ⟨a, b, rfl, la, lb, q⟩ := h
    refine ⟨_, (pss_cons (ps_if (pt_cmpR op_in_seq pe_int (pe_tup (pa_cons (pv 0) (pa_cons (pv 1) pa_nil))) (by rfl)) (pss_one (ps_ret pe_int)) pss_nil)
      (pss_one (ps_ret (pe_op op_add (pe_op op_mulW pe_int (pe_op op_add (pe_op op_fdivW (pv 0) pe_int) (pe_op op_fdivW (pv 1) pe_int))) (pe_op op_mulW (pe_op op_modN (pv 0) pe_int) (pe_op op_modN (pv 1) pe_int)))))), ?_⟩
    refine ⟨_, rfl, _, rfl, (by show 2 ≤ sizeLine; decide), fun p np => ?_⟩
    have ei : inV (.int 1000000) [.int a, .int b] = decide (a = 1000000 ∨ b = 1000000) := by
      show ((a == 1000000) || ((b == 1000000) || false)) = _
      by_cases x : a = 1000000 <;> by_cases y : b = 1000000 <;> simp [x, y]
    refine ⟨p, _, rfl, .inr (SqT.of upd_same), rfl, rfl, _, rfl, ?_⟩
    have sm := same_upd (o := .tup [.int a, .int b]) np
    rw [ei]
    by_cases z : a = 1000000 ∨ b = 1000000
    · rw [decide_eq_true z]
      have := q _ sm
      rw [sumB_far z] at this
      exact this
    · rw [decide_eq_false z]
      have h2 : ∀ x : Int, x.natAbs < 2 ^ 300 → (x / 2).natAbs < 2 ^ 300 := fun x hx => by omega
      have h3 : ∀ x : Int, (x.fmod 2).natAbs < 2 ^ 2 := fun x => by rw [Int.fmod_eq_emod_of_nonneg _ (by decide)]; omega
      have d2 : ∀ x : Int, CDivW x 2 := fun x => wide_div (b := 2) (by decide) (by decide) (by decide) (by decide)
      have l4 : (a / 2 + b / 2).natAbs < 2 ^ 301 := by
        have := h2 a la
        have := h2 b lb
        omega
      refine ⟨_, rfl, _, _, rfl, rfl, d2 _, _, rfl, _, _, rfl, rfl, d2 _, _, _, rfl, rfl, _, _, rfl, rfl, wide_mul (a := 2) (by decide) l4 (by decide) (by decide) (by decide), ?_⟩
      refine ⟨_, rfl, _, _, rfl, rfl, (show (2 : Int) ≠ 0 by decide), _, rfl, _, _, rfl, rfl, (show (2 : Int) ≠ 0 by decide), _, _, rfl, rfl, wide_mul (h3 a) (h3 b) (by decide) (by decide) (by decide), _, _, rfl, rfl, ?_⟩
      have := q _ sm
      unfold sumB at this
      rw [if_neg z] at this
      rw [Int.fmod_eq_emod_of_nonneg _ (by decide), Int.fmod_eq_emod_of_nonneg _ (by decide)]
      exact this
end
end My

namespace My
open PySem PySem.Spec PyProof.Rows L2
theorem word_head (w : GRow) : atI w.word.cps.toList 0 = some (if w.up = true then 60 else 62) := by
  obtain ⟨k, u, r, n⟩ := w
  cases u <;> cases r <;> rfl
theorem head_up (w : GRow) : decide (V.str ⟨#[if w.up = true then 60 else 62]⟩ = V.str "<") = w.up := by
  cases w.up <;> rfl
/-- _law_tight(bounds, side) -/
def spLTight : Sp := fun vs H Q _ => ∃ (b : Addr) (n : Nat) (f : Nat → Int), vs = [.ref b, .int n] ∧ (H b = some (.lst (tab n f)) ∨ H b = some (.tup (tab n f))) ∧ n ≤ 4 ∧ BdN (n * n) 25 f ∧
  ((∃ i, i < n ∧ fwF n n f (i * n + i) < 1) → ∀ H', Same H H' → Q .non H') ∧
  ((∀ i, i < n → 1 ≤ fwF n n f (i * n + i)) → ∀ a H', Same H H' → H a = none → H' a = some (.tup (tab n (fwF n n f))) → Q (.ref a) H')
/-- _law_kept(zone, guard) -/
def spLKept : Sp := fun vs H Q _ => ∃ (a g : Addr) (n : Nat) (f : Nat → Int) (ps : List (Addr × GRow)), vs = [.ref a, .ref g] ∧ H a = some (.tup (tab n f)) ∧ GuardAt H g ps ∧ 2 ≤ n ∧ n ≤ 4 ∧ BdN (n * n) 25 f ∧
  (∀ p ∈ ps, p.2.okFor n) ∧
  ((∃ i, i < n ∧ fwF n n (guardsF n f (ps.map (·.2))) (i * n + i) < 1) → ∀ H', Same H H' → Q .non H') ∧
  ((∀ i, i < n → 1 ≤ fwF n n (guardsF n f (ps.map (·.2))) (i * n + i)) → ∀ a H', Same H H' → H a = none → H' a = some (.tup (tab n (fwF n n (guardsF n f (ps.map (·.2)))))) → Q (.ref a) H')
/-- _law_set(zone, clock) -/
def spLSet : Sp := fun vs H Q _ => ∃ (a : Addr) (n : Nat) (f : Nat → Int) (k : Nat), vs = [.ref a, .int (k : Int)] ∧ H a = some (.tup (tab n f)) ∧ 2 ≤ n ∧ n ≤ 4 ∧ k + 1 < n ∧ ∀ p H', Same H H' → H p = none → H' p = some (.tup (tab n (setF n (1 + k) f))) → Q (.ref p) H'
section
variable {P : Program} {w : World} {K : PySem.W.Frag} {mg : Str → Option Value} {base : Heap} {A : Nat → Addr} {D : Nat → FuncData}
theorem ok_ltight (T : Txt K mg A D) : FnG P w K mg base CX0 2 (A 32) (D 32) ["bounds", "side"] spLTight := by
  have G__law_sum := ok_lsum (P := P) (w := w) (base := base) T
  refine def_ok0 T.F__law_tight sc__law_tight (fun vs H Q E h => ?_) (fun cdv Ar outer s H vs Q E hr hG h => ?_)
  · obtain ⟨b, n, f, rfl, _⟩ := h; rfl
  · obtain ⟨b, n, f, rfl, hb, n4, bd, qn, qy⟩ := h
    refine ⟨_, (pss_cons (ps_set (i := 2) sc__law_tight.nd rfl (Or.inr rfl) (pe_callTy call_list_of (by rfl) T.n_list (by decide +kernel) (pa_cons (pv 0) pa_nil)))
      (pss_cons (ps_for (by first | exact PassesOwn.never | exact PassesOwn.leaving | exact L2.passes_of rfl) rfl (pi_range1 rfl T.n_range (pa_cons (pv 1) pa_nil)) (pg_name (i := 3) sc__law_tight.nd rfl (Or.inl rfl)) (pss_one (ps_for (by first | exact PassesOwn.never | exact PassesOwn.leaving | exact L2.passes_of rfl) rfl (pi_range1 rfl T.n_range (pa_cons (pv 1) pa_nil)) (pg_name (i := 4) sc__law_tight.nd rfl (Or.inl rfl)) (pss_one (ps_for (by first | exact PassesOwn.never | exact PassesOwn.leaving | exact L2.passes_of rfl) rfl (pi_range1 rfl T.n_range (pa_cons (pv 1) pa_nil)) (pg_name (i := 5) sc__law_tight.nd rfl (Or.inl rfl)) (pss_cons (ps_set (i := 6) sc__law_tight.nd rfl (Or.inl rfl) (pe_cg G__law_sum (hr.mono (by first | decide | omega)) hG (by rfl) T.g__law_sum T.F__law_sum.kp T.b__law_sum pass0 (pa_cons (pe_ix ix_list (pv 2) (pe_op op_add (pe_op op_mulW (pv 4) (pv 1)) (pv 3)) (fun _ _ => rfl)) (pa_cons (pe_ix ix_list (pv 2) (pe_op op_add (pe_op op_mulW (pv 3) (pv 1)) (pv 5)) (fun _ _ => rfl)) pa_nil))))
      (pss_one (ps_asg (pe_callB (call_min2 rfl) (by rfl) T.n_min (by decide +kernel) (pa_cons (pe_ix ix_list (pv 2) (pe_op op_add (pe_op op_mulW (pv 4) (pv 1)) (pv 5)) (fun _ _ => rfl)) (pa_cons (pv 6) pa_nil))) (pg_sub (pv 2) (pe_op op_add (pe_op op_mulW (pv 4) (pv 1)) (pv 5)) set_list)))))))))
      (pss_one (ps_ret (pe_ifExp (pt_val (pe_callB (cr_all rfl) (by rfl) T.n_all (by decide +kernel) (pa_cons (pe_lc (own := [("at", 7)]) (g := gName 7) (tt := tYes) (by rfl) sc__law_tight.nd (pi_range1 rfl T.n_range (pa_cons (pv 1) pa_nil)) (blkOk_by (own := [("at", 7)]) (N := ["bounds", "side", "found", "middle", "row", "column", "by", "at"]) (sc := defScope s__law_tight) (by decide +kernel)) (fun _ _ _ _ _ => pg_name (i := 7) sc__law_tight.nd rfl (by first | exact Or.inl rfl | exact Or.inr rfl | exact Or.inr (Or.inl rfl))) (fun _ _ _ _ _ => pts_nil) (fun _ _ _ _ _ => (pe_cmpR op_ge (pe_ix (ix_listX (K := K)) (pv 2) (pe_op op_add (pe_op op_mulW (pv 7) (pv 1)) (pv 7)) (fun _ _ => rfl)) pe_int (nomark _)))) pa_nil))) (pe_callTy call_tuple_of (by rfl) T.n_tuple (by decide +kernel) (pa_cons (pv 2) pa_nil)) pe_non))))), ?_⟩
    refine ⟨_, rfl, b, _, rfl, hb.imp SqL.of SqT.of, fun p hp0 => ?_⟩
    have s0 := same_upd (o := .lst (tab n f)) hp0
    have fin : ∀ {H' : Hp}, But p H H' → Same H H' := fun b2 b o e => b2 b o (ne_of_none e hp0) e
    refine ⟨_, rfl, _, rfl, by omega, by omega, for_range (fun k σ H' => ∃ u3 u4 u5 u6, σ = [some (.ref b), some (.int n), some (.ref p), u3, u4, u5, u6, none] ∧ H' p = some (.lst (tab n (fwF n k f))) ∧ But p H H') ⟨none, none, none, none, rfl, upd_same, But.of s0⟩ ?_ ?_⟩
    · rintro k σ H1 hk ⟨u3, u4, u5, u6, rfl, hp1, b1⟩
      rw [Int.toNat_natCast] at hk
      refine ⟨_, rfl, _, rfl, by omega, by omega, for_range (fun i σ H' => ∃ u4 u5 u6, σ = [some (.ref b), some (.int n), some (.ref p), some (.int (0 + (k : Int))), u4, u5, u6, none] ∧ H' p = some (.lst (tab n (rowF n k i (fwF n k f)))) ∧ But p H H') ⟨_, _, _, rfl, hp1, b1⟩ ?_ ?_⟩
      · rintro i σ H2 hi ⟨u4, u5, u6, rfl, hp2, b2⟩
        rw [Int.toNat_natCast] at hi
        refine ⟨_, rfl, _, rfl, by omega, by omega, for_range (fun j σ H' => ∃ u5 u6, σ = [some (.ref b), some (.int n), some (.ref p), some (.int (0 + (k : Int))), some (.int (0 + (i : Int))), u5, u6, none] ∧ H' p = some (.lst (tab n (colF n k i j (rowF n k i (fwF n k f))))) ∧ But p H H') ⟨_, _, rfl, hp2, b2⟩ ?_ ?_⟩
        · rintro j σ H3 hj ⟨u5, u6, rfl, hp3, b3⟩
          rw [Int.toNat_natCast] at hj
          have bd3 := bd.stage n4 hk hi (Nat.le_of_lt hj)
          obtain ⟨g, hg⟩ : ∃ g, g = colF n k i j (rowF n k i (fwF n k f)) := ⟨_, rfl⟩
          have en : colF n k i (j + 1) (rowF n k i (fwF n k f)) = stepF n k i j g := by rw [hg]; rfl
          rw [← hg] at bd3 hp3
          rw [en]
          clear hg en
          refine ⟨_, rfl, _, rfl, _, rfl, _, _, rfl, rfl, mulI hi n4, _, rfl, _, _, rfl, rfl, p, _, _, _, rfl, rfl, SqL.of hp3, tab_at (ix_lt hi hk) ixI0, ?_⟩
          refine ⟨_, rfl, _, rfl, _, rfl, _, _, rfl, rfl, mulI hk n4, _, rfl, _, _, rfl, rfl, p, _, _, _, rfl, rfl, SqL.of hp3, tab_at (ix_lt hk hj) ixI0, ?_⟩
          refine ⟨_, _, rfl, bd3 _ (ix_lt hi hk), bd3 _ (ix_lt hk hj), fun H4 s4 => ?_⟩
          have hp4 := s4 _ _ hp3
          refine ⟨_, rfl, _, rfl, _, rfl, _, _, rfl, rfl, mulI hi n4, _, rfl, _, _, rfl, rfl, p, _, _, _, rfl, rfl, SqL.of hp4, tab_at (ix_lt hi hj) ixI0, _, rfl, _, _, rfl, ?_⟩
          refine ⟨_, rfl, _, rfl, _, rfl, _, _, rfl, rfl, mulI hi n4, _, rfl, _, _, rfl, rfl, p, _, _, _, rfl, rfl, hp4, ixN_nat (by rw [tab_len]; exact ix_lt hi hj) ixI0, ?_⟩
          refine ⟨_, _, rfl, ?_, (b3.trans (But.of s4)).trans But.upd⟩
          rw [upd_same, min_if, tab_set]; rfl
        · rintro σ H3 ⟨u5, u6, rfl, hp3, b3⟩
          rw [Int.toNat_natCast] at hp3
          exact ⟨_, _, _, rfl, hp3, b3⟩
      · rintro σ H2 ⟨u4, u5, u6, rfl, hp2, b2⟩
        rw [Int.toNat_natCast] at hp2
        exact ⟨_, _, _, _, rfl, hp2, b2⟩
    · rintro σ H1 ⟨u3, u4, u5, u6, rfl, hp1, b1⟩
      rw [Int.toNat_natCast] at hp1
      obtain ⟨F, hF⟩ : ∃ F, F = fwF n n f := ⟨_, rfl⟩
      rw [← hF] at hp1 qn qy
      refine ⟨_, rfl, _, rfl, by omega, by omega, fun D1 hD => lcV_range (fun i => V.bl (decide (1 ≤ F (i * n + i)))) hD (by rw [Int.toNat_natCast, sizeLine_eq]; omega) (fun i hi H2 Q2 s2 k2 => ?_) (fun H2 s2 h2 => ?_)⟩
      · rw [Int.toNat_natCast] at hi
        refine ⟨_, rfl, _, rfl, _, rfl, _, _, rfl, rfl, mulI hi n4, _, rfl, _, _, rfl, rfl, p, _, _, _, rfl, rfl, SqL.of (s2 _ _ hp1), tab_at (ix_lt hi hi) ixI0, _, _, rfl, rfl, ?_⟩
        exact k2 _ (Same.refl _)
      · rw [Int.toNat_natCast] at h2
        refine ⟨D1, (List.range n).map (fun i => decide (1 ≤ F (i * n + i))), rfl, SqL.of (by rw [h2, List.map_map]; rfl), _, rfl, ite2 (fun e => ?_) (fun e => ?_)⟩
        · have z : ∀ i, i < n → 1 ≤ F (i * n + i) := fun i hi => by
            have := List.all_eq_true.mp e _ (List.mem_map.mpr ⟨i, List.mem_range.mpr hi, rfl⟩)
            exact of_decide_eq_true this
          refine ⟨_, rfl, p, _, rfl, .inl ⟨SqL.of (s2 _ _ hp1), fun a ha => ?_⟩⟩
          have sf := fin ((b1.trans (But.of s2)).trans (But.of (same_upd (o := .tup (tab n F)) ha)))
          refine qy z a _ sf ?_ upd_same
          cases h : H a with
          | none => rfl
          | some o =>
            have := fin (b1.trans (But.of s2)) a o h
            rw [ha] at this; cases this
        · refine qn ?_ _ (fin (b1.trans (But.of s2)))
          refine Decidable.byContradiction fun y => e ?_
          rw [List.all_eq_true]
          intro x hx
          obtain ⟨i, hi, rfl⟩ := List.mem_map.mp hx
          refine decide_eq_true (Int.not_lt.mp fun z => y ⟨i, List.mem_range.mp hi, by omega⟩)
theorem ok_lkept (T : Txt K mg A D) : FnG P w K mg base CX0 3 (A 33) (D 33) ["zone", "guard"] spLKept := by
  have G__law_side := ok_lside (P := P) (w := w) (base := base) T
  have G__law_tight := ok_ltight (P := P) (w := w) (base := base) T
  refine def_ok0 T.F__law_kept sc__law_kept (fun vs H Q E h => ?_) (fun cdv Ar outer s H vs Q E hr hG h => ?_)
  · obtain ⟨a, g, n, f, ps, rfl, _⟩ := h; rfl
  · obtain ⟨a, g, n, f, ps, rfl, ha, hg, n2, n4, bd, okp, qn, qy⟩ := h
    refine ⟨_, (pss_cons (ps_par (i := 2) (j := 3) (by rfl) sc__law_kept.nd rfl rfl (by decide) rfl rfl (pa_cons (pe_cg G__law_side (hr.mono (by first | decide | omega)) hG (by rfl) T.g__law_side T.F__law_side.kp T.b__law_side pass0 (pa_cons (pv 0) pa_nil)) (pa_cons (pe_callTy call_list_of (by rfl) T.n_list (by decide +kernel) (pa_cons (pv 0) pa_nil)) pa_nil)) (by rfl))
      (pss_cons (ps_for (by first | exact PassesOwn.never | exact PassesOwn.leaving | exact L2.passes_of rfl) rfl (pi_tup (pv 1)) (pg_tup rfl (pgs_cons (pg_name (i := 4) sc__law_kept.nd rfl (Or.inl rfl)) (pgs_cons (pg_name (i := 5) sc__law_kept.nd rfl (Or.inl rfl)) (pgs_cons (pg_name (i := 6) sc__law_kept.nd rfl (Or.inl rfl)) pgs_nil)))) (pss_cons (ps_par (i := 7) (j := 8) (by rfl) sc__law_kept.nd rfl rfl (by decide) rfl rfl (pa_cons (pe_op op_add pe_int (pv 4)) (pa_cons (pe_ifExp (pt_cmpR op_eq (pe_callB call_len_str (by rfl) T.n_len PySem.boot_len (pa_cons (pv 5) pa_nil)) pe_int (nomark _)) pe_int pe_int) pa_nil)) (by rfl))
      (pss_one (ps_if (pt_cmpR op_eq (pe_ix ix_str (pv 5) pe_int (fun _ _ => rfl)) pe_str (nomark _)) (pss_one (ps_asg (pe_callB (call_min2 rfl) (by rfl) T.n_min (by decide +kernel) (pa_cons (pe_ix ix_list (pv 3) (pe_op op_mulW (pv 7) (pv 2)) (fun _ _ => rfl)) (pa_cons (pe_op op_add (pe_op op_mulW pe_int (pv 6)) (pv 8)) pa_nil))) (pg_sub (pv 3) (pe_op op_mulW (pv 7) (pv 2)) set_list))) (pss_one (ps_asg (pe_callB (call_min2 rfl) (by rfl) T.n_min (by decide +kernel) (pa_cons (pe_ix ix_list (pv 3) (pv 7) (fun _ _ => rfl)) (pa_cons (pe_op op_sub (pv 8) (pe_op op_mulW pe_int (pv 6))) pa_nil))) (pg_sub (pv 3) (pv 7) set_list)))))))
      (pss_one (ps_ret (pe_cg G__law_tight (hr.mono (by first | decide | omega)) hG (by rfl) T.g__law_tight T.F__law_tight.kp T.b__law_tight pass0 (pa_cons (pv 3) (pa_cons (pv 2) pa_nil))))))), ?_⟩
    refine ⟨_, rfl, a, tab n f, n, rfl, ha, tab_len n f, n2, n4, fun H0 s00 => ⟨_, rfl, a, _, rfl, .inr (SqT.of (s00 _ _ ha)), fun l hl => ?_⟩⟩
    have s1 := s00.trans (same_upd (o := .lst (tab n f)) hl)
    have hl0 : H l = none := by
      cases h : H l with
      | none => rfl
      | some o => rw [s00 _ _ h] at hl; cases hl
    have fin : ∀ {H' : Hp}, But l H H' → Same H H' := fun b2 b o e => b2 b o (ne_of_none e hl0) e
    refine ⟨_, _, rfl, _, rfl, g, rfl, ⟨_, SqT.of (s1 _ _ hg.1)⟩, for_tup (K := K) (a := g) (xs := ps.map fun p => V.ref p.1) (fun i σ H' => ∃ u4 u5 u6 u7 u8, σ = [some (.ref a), some (.ref g), some (.int n), some (.ref l), u4, u5, u6, u7, u8] ∧ H' l = some (.lst (tab n (guardsF n f ((ps.take i).map (·.2))))) ∧ But l H H') ⟨none, none, none, none, none, rfl, upd_same, But.of s1⟩ (fun i σ H' _ ⟨_, _, _, _, _, _, _, b⟩ => SqT.of (fin b g _ hg.1)) ?_ ?_⟩
    · rintro i y σ H1 hy ⟨u4, u5, u6, u7, u8, rfl, h1, b1⟩
      obtain ⟨⟨r, w⟩, hpi, rfl⟩ : ∃ p, ps[i]? = some p ∧ y = V.ref p.1 := by
        rw [List.getElem?_map] at hy
        cases e : ps[i]? with
        | none => rw [e] at hy; cases hy
        | some z => rw [e] at hy; exact ⟨z, rfl, (Option.some.inj hy).symm⟩
      have mem := List.mem_of_getElem? hpi
      have hr0 := hg.2 _ mem
      have hrow := fin b1 _ _ hr0
      obtain ⟨o1, o2, o3⟩ := okp _ mem
      have en : guardsF n f ((ps.take (i + 1)).map (·.2)) = guard1 n (guardsF n f ((ps.take i).map (·.2))) w := by
        rw [take_step1 hpi, List.map_append]
        unfold guardsF
        rw [List.foldl_append]; rfl
      obtain ⟨e, he⟩ : ∃ e, e = guardsF n f ((ps.take i).map (·.2)) := ⟨_, rfl⟩
      rw [en]
      rw [← he] at h1 ⊢
      clear he en
      dsimp only at o1 o2 o3 hrow hr0
      refine ⟨r, _, rfl, SqT.of hrow, rfl, _, _, rfl, _, _, rfl, _, _, rfl, rfl, ?_⟩
      refine ⟨_, rfl, _, _, rfl, rfl, _, rfl, _, rfl, word_sz w, rfl, _, rfl, ?_⟩
      show if decide (V.int ((w.word.length : Nat) : Int) = V.int 2) = true then _ else _
      rw [word_len]
      have mk1 : CMulW (1 + (w.k : Int)) (n : Int) := wide_mul (a := 20) (b := 20) (by omega) (by omega) (by decide) (by decide) (by decide)
      have mk2 : CMulW 2 w.num := wide_mul (a := 20) (b := 20) (by decide) (by omega) (by decide) (by decide) (by decide)
      cases hr2 : w.r with
      | true =>
        rw [if_pos rfl]
        refine ⟨_, _, rfl, ?_⟩
        refine ⟨_, rfl, w.word, 0, _, rfl, rfl, word_sz w, word_head w, rfl, _, rfl, ?_⟩
        show if decide (V.str ⟨#[if w.up = true then 60 else 62]⟩ = V.str "<") = true then _ else _
        rw [head_up]
        cases hu : w.up with
        | true =>
          rw [if_pos rfl]
          have ix : (1 + (w.k : Int)) * (n : Int) = (((1 + w.k) * n + 0 : Nat) : Int) := by rw [Nat.add_zero, Int.natCast_mul]; rfl
          have lt : (1 + w.k) * n + 0 < n * n := ix_lt (by omega) (by omega)
          refine ⟨_, rfl, _, rfl, _, rfl, _, _, rfl, rfl, mk1, l, _, _, _, rfl, rfl, SqL.of h1, tab_at lt ix, _, rfl, _, _, rfl, rfl, mk2, _, rfl, _, _, rfl, rfl, _, _, rfl, ?_⟩
          refine ⟨_, rfl, _, rfl, _, rfl, _, _, rfl, rfl, mk1, l, _, _, _, rfl, rfl, h1, ixN_nat (by rw [tab_len]; exact lt) ix, ?_⟩
          refine ⟨_, _, _, _, _, rfl, ?_, b1.trans But.upd⟩
          rw [upd_same, min_if, tab_set]
          unfold guard1 GRow.rho
          rw [if_pos hu, hr2]; rfl
        | false =>
          rw [if_neg (by decide)]
          have ix : (1 + (w.k : Int)) = ((0 * n + (1 + w.k) : Nat) : Int) := by rw [Nat.zero_mul, Nat.zero_add]; rfl
          have lt : 0 * n + (1 + w.k) < n * n := ix_lt (by omega) (by omega)
          refine ⟨_, rfl, _, rfl, l, _, _, _, rfl, rfl, SqL.of h1, tab_at lt ix, _, rfl, _, rfl, _, _, rfl, rfl, mk2, _, _, rfl, rfl, _, _, rfl, ?_⟩
          refine ⟨_, rfl, _, rfl, l, _, _, _, rfl, rfl, h1, ixN_nat (by rw [tab_len]; exact lt) ix, ?_⟩
          refine ⟨_, _, _, _, _, rfl, ?_, b1.trans But.upd⟩
          have e5 : (1 : Int) - 2 * w.num = 2 * (0 - w.num) + 1 := by omega
          rw [upd_same, min_if, tab_set, e5]
          unfold guard1 GRow.rho
          rw [if_neg (by rw [hu]; decide), hr2]; rfl
      | false =>
        rw [if_neg (by decide)]
        refine ⟨_, _, rfl, ?_⟩
        refine ⟨_, rfl, w.word, 0, _, rfl, rfl, word_sz w, word_head w, rfl, _, rfl, ?_⟩
        show if decide (V.str ⟨#[if w.up = true then 60 else 62]⟩ = V.str "<") = true then _ else _
        rw [head_up]
        cases hu : w.up with
        | true =>
          rw [if_pos rfl]
          have ix : (1 + (w.k : Int)) * (n : Int) = (((1 + w.k) * n + 0 : Nat) : Int) := by rw [Nat.add_zero, Int.natCast_mul]; rfl
          have lt : (1 + w.k) * n + 0 < n * n := ix_lt (by omega) (by omega)
          refine ⟨_, rfl, _, rfl, _, rfl, _, _, rfl, rfl, mk1, l, _, _, _, rfl, rfl, SqL.of h1, tab_at lt ix, _, rfl, _, _, rfl, rfl, mk2, _, rfl, _, _, rfl, rfl, _, _, rfl, ?_⟩
          refine ⟨_, rfl, _, rfl, _, rfl, _, _, rfl, rfl, mk1, l, _, _, _, rfl, rfl, h1, ixN_nat (by rw [tab_len]; exact lt) ix, ?_⟩
          refine ⟨_, _, _, _, _, rfl, ?_, b1.trans But.upd⟩
          rw [upd_same, min_if, tab_set]
          unfold guard1 GRow.rho
          rw [if_pos hu, hr2]; rfl
        | false =>
          rw [if_neg (by decide)]
          have ix : (1 + (w.k : Int)) = ((0 * n + (1 + w.k) : Nat) : Int) := by rw [Nat.zero_mul, Nat.zero_add]; rfl
          have lt : 0 * n + (1 + w.k) < n * n := ix_lt (by omega) (by omega)
          refine ⟨_, rfl, _, rfl, l, _, _, _, rfl, rfl, SqL.of h1, tab_at lt ix, _, rfl, _, rfl, _, _, rfl, rfl, mk2, _, _, rfl, rfl, _, _, rfl, ?_⟩
          refine ⟨_, rfl, _, rfl, l, _, _, _, rfl, rfl, h1, ixN_nat (by rw [tab_len]; exact lt) ix, ?_⟩
          refine ⟨_, _, _, _, _, rfl, ?_, b1.trans But.upd⟩
          have e5 : (0 : Int) - 2 * w.num = 2 * (0 - w.num) + 0 := by omega
          rw [upd_same, min_if, tab_set, e5]
          unfold guard1 GRow.rho
          rw [if_neg (by rw [hu]; decide), hr2]; rfl
    · rintro σ H1 ⟨u4, u5, u6, u7, u8, rfl, h1, b1⟩
      rw [List.length_map, List.take_length] at h1
      have bg := BdN.guards (ws := ps.map (·.2)) bd (fun w hw => by
        obtain ⟨p, hp, rfl⟩ := List.mem_map.mp hw
        exact okp p hp)
      refine ⟨_, rfl, _, rfl, l, n, _, rfl, .inl h1, n4, bg, fun z H2 b2 => qn z H2 ((fin b1).trans b2), fun z a2 H2 b2 na e2 => qy z a2 H2 ((fin b1).trans b2) ?_ e2⟩
      cases h : H a2 with
      | none => rfl
      | some o =>
        have := fin b1 a2 o h
        rw [na] at this; cases this
theorem ok_lset (T : Txt K mg A D) : FnG P w K mg base CX0 2 (A 35) (D 35) ["zone", "clock"] spLSet := by
  have G__law_side := ok_lside (P := P) (w := w) (base := base) T
  refine def_ok0 T.F__law_set sc__law_set (fun vs H Q E h => ?_) (fun cdv Ar outer s H vs Q E hr hG h => ?_)
  · obtain ⟨a, n, f, k, rfl, _⟩ := h; rfl
  · obtain ⟨a, n, f, k, rfl, ha, n2, n4, hk, q⟩ := h
    refine ⟨_, (pss_cons (ps_asg (pe_tup (pa_cons (pe_cg G__law_side (hr.mono (by first | decide | omega)) hG (by rfl) T.g__law_side T.F__law_side.kp T.b__law_side pass0 (pa_cons (pv 0) pa_nil)) (pa_cons (pe_op op_add pe_int (pv 1)) pa_nil))) (pg_tup rfl (pgs_cons (pg_name (i := 2) sc__law_set.nd rfl (Or.inr rfl)) (pgs_cons (pg_name (i := 3) sc__law_set.nd rfl (Or.inr rfl)) pgs_nil))))
      (pss_cons (ps_set (i := 4) sc__law_set.nd rfl (Or.inr rfl) (pe_lc (own := [("one", 5)]) (g := gName 5) (tt := tYes) (by rfl) sc__law_set.nd (pi_range1 rfl T.n_range (pa_cons (pv 2) pa_nil)) (blkOk_by (own := [("one", 5)]) (N := ["zone", "clock", "side", "at", "led", "one", "place"]) (sc := defScope s__law_set) (by decide +kernel)) (fun _ _ _ _ _ => pg_name (i := 5) sc__law_set.nd rfl (by first | exact Or.inl rfl | exact Or.inr rfl | exact Or.inr (Or.inl rfl))) (fun _ _ _ _ _ => pts_nil) (fun _ _ _ _ _ => (pe_ifExp (pt_cmpR op_eq (pv 5) (pv 3) (nomark _)) pe_int (pv 5)))))
      (pss_one (ps_ret (pe_callTy call_tuple_of (by rfl) T.n_tuple (by decide +kernel) (pa_cons (pe_lc (own := [("place", 6)]) (g := gName 6) (tt := tYes) (by rfl) sc__law_set.nd (pi_range1 rfl T.n_range (pa_cons (pe_op op_mulW (pv 2) (pv 2)) pa_nil)) (blkOk_by (own := [("place", 6)]) (N := ["zone", "clock", "side", "at", "led", "one", "place"]) (sc := defScope s__law_set) (by decide +kernel)) (fun _ _ _ _ _ => pg_name (i := 6) sc__law_set.nd rfl (by first | exact Or.inl rfl | exact Or.inr rfl | exact Or.inr (Or.inl rfl))) (fun _ _ _ _ _ => pts_nil) (fun _ _ _ _ _ => (pe_ix (ix_tupX (K := K)) (pv 0) (pe_op op_add (pe_op op_mulW (pe_ix (ix_listX (K := K)) (pv 4) (pe_op op_fdivW (pv 6) (pv 2)) (fun _ _ => rfl)) (pv 2)) (pe_ix (ix_listX (K := K)) (pv 4) (pe_op op_modN (pv 6) (pv 2)) (fun _ _ => rfl))) (fun _ _ => rfl)))) pa_nil)))))), ?_⟩
    refine ⟨_, rfl, a, tab n f, n, rfl, ha, tab_len n f, n2, n4, fun H1 s1 => ⟨_, rfl, _, _, rfl, rfl, (by show 2 ≤ sizeLine; decide), fun t ht => ?_⟩⟩
    have s2 := fun o => s1.trans (same_upd (o := o) ht)
    refine ⟨t, _, rfl, SqT.of upd_same, rfl, _, _, rfl, _, _, rfl, rfl, ?_⟩
    refine ⟨_, rfl, _, rfl, by omega, by omega, fun D1 hD1 => lcV_range (fun i => V.int (led (1 + k) i : Nat)) hD1 (by rw [Int.toNat_natCast, sizeLine_eq]; omega) (fun i hi H2 Q2 s3 k3 => ?_) (fun H2 s3 h3 => ?_)⟩
    · refine ⟨_, rfl, _, rfl, rfl, _, rfl, ite2 (fun e => ?_) (fun e => ?_)⟩
      · have e2 := V.int.inj (of_decide_eq_true e)
        have := k3 H2 (Same.refl _)
        have z : led (1 + k) i = 0 := by
          unfold led
          rw [if_pos (by omega)]
        rw [z] at this
        exact this
      · have e2 : ¬ i = 1 + k := fun z => e (decide_eq_true (by subst z; exact congrArg V.int (by omega)))
        have := k3 H2 (Same.refl _)
        have z : led (1 + k) i = i := by
          unfold led
          rw [if_neg e2]
        rw [z] at this
        refine ⟨_, rfl, ?_⟩
        rw [Int.zero_add]; exact this
    · rw [Int.toNat_natCast] at h3
      have sA := (s2 (.tup [.int n, .int (1 + (k : Int))])).trans s3
      have nn : n * n ≤ 16 := Nat.mul_le_mul n4 n4
      have en : ((n : Int) * (n : Int)) = ((n * n : Nat) : Int) := (Int.natCast_mul n n).symm
      refine ⟨_, rfl, _, rfl, _, _, rfl, rfl, wide_mul (a := 20) (b := 20) (by omega) (by omega) (by decide) (by decide) (by decide), _, rfl, by omega, by omega, fun D2 hD2 => lcV_range (fun i => V.int (setF n (1 + k) f i)) hD2 (by rw [en, Int.toNat_natCast, sizeLine_eq]; omega) (fun i hi H3 Q3 s4 k4 => ?_) (fun H3 s4 h4 => ?_)⟩
      · rw [en, Int.toNat_natCast] at hi
        obtain ⟨r, c, hc, rfl⟩ := ix_of n i (by omega)
        have hr4 : r < n := by
          refine Nat.lt_of_not_le fun y => ?_
          have := Nat.mul_le_mul_right n y
          omega
        have d1 : (0 + ((r * n + c : Nat) : Int)) / (n : Int) = ((r : Nat) : Int) := by
          rw [Int.zero_add, ← Int.natCast_ediv, (ix_div hc).1]
        have d2 : (0 + ((r * n + c : Nat) : Int)).fmod (n : Int) = ((c : Nat) : Int) := by
          rw [Int.zero_add, Int.fmod_eq_emod_of_nonneg _ (by omega), ← Int.natCast_emod, (ix_div hc).2]
        have lat : ∀ x : Nat, x < n → atI ((List.range n).map fun i => V.int (led (1 + k) i : Nat)) (x : Int) = some (V.int (led (1 + k) x : Nat)) := fun x hx => atI_nat (by rw [List.getElem?_map, List.getElem?_range hx]; rfl)
        have h34 := s4 _ _ h3
        have lr := led_lt (a := 1 + k) n2 hr4
        have lc := led_lt (a := 1 + k) n2 hc
        refine ⟨_, rfl, _, rfl, _, rfl, _, rfl, _, _, rfl, rfl, wide_div (b := 20) (by omega) (by omega) (by decide) (by decide), D1, _, _, _, rfl, rfl, SqL.of h34, (by rw [d1]; exact lat r hr4), _, rfl, _, _, rfl, rfl, wide_mul (a := 20) (b := 20) (by omega) (by omega) (by decide) (by decide) (by decide), ?_⟩
        refine ⟨_, rfl, _, rfl, _, rfl, _, _, rfl, rfl, (show (n : Int) ≠ 0 by omega), D1, _, _, _, rfl, rfl, SqL.of h34, (by rw [d2]; exact lat c hc), _, _, rfl, rfl, a, _, _, _, rfl, rfl, SqT.of (s4 _ _ (sA _ _ ha)), tab_at (ix_lt lr lc) ixI, ?_⟩
        have := k4 H3 (Same.refl _)
        rw [set_at hc] at this
        exact this
      · rw [en, Int.toNat_natCast] at h4
        refine ⟨D2, _, rfl, .inl ⟨SqL.of h4, fun p hp => ?_⟩⟩
        have sB := sA.trans s4
        exact q p _ (sB.trans (same_upd hp)) (sB.free hp) upd_same
end
end My

namespace My
open PySem PySem.Spec PyProof.Rows L2
/-- _law_later(zone) -/
def spLLater : Sp := fun vs H Q _ => ∃ (a : Addr) (n : Nat) (f : Nat → Int), vs = [.ref a] ∧ H a = some (.tup (tab n f)) ∧ 2 ≤ n ∧ n ≤ 4 ∧ ∀ p H', Same H H' → H p = none → H' p = some (.tup (tab n (laterF n f))) → Q (.ref p) H'
section
variable {P : Program} {w : World} {K : PySem.W.Frag} {mg : Str → Option Value} {base : Heap} {A : Nat → Addr} {D : Nat → FuncData}
theorem ok_llater (T : Txt K mg A D) : FnG P w K mg base CX0 2 (A 34) (D 34) ["zone"] spLLater := by
  have G__law_side := ok_lside (P := P) (w := w) (base := base) T
  refine def_ok0 T.F__law_later sc__law_later (fun vs H Q E h => ?_) (fun cdv Ar outer s H vs Q E hr hG h => ?_)
  · obtain ⟨a, n, f, rfl, _⟩ := h; rfl
  · obtain ⟨a, n, f, rfl, ha, n2, n4, q⟩ := h
    refine ⟨_, (pss_cons (ps_set (i := 1) sc__law_later.nd rfl (Or.inr rfl) (pe_cg G__law_side (hr.mono (by first | decide | omega)) hG (by rfl) T.g__law_side T.F__law_side.kp T.b__law_side pass0 (pa_cons (pv 0) pa_nil)))
      (pss_one (ps_ret (pe_callTy call_tuple_of (by rfl) T.n_tuple (by decide +kernel) (pa_cons (pe_lc (own := [("at", 2), ("bound", 3)]) (g := gTup K 2 (gCons (gName 2) (gCons (gName 3) gNil))) (tt := tYes) (by rfl) sc__law_later.nd (pi_enumT (by rfl) T.n_enumerate (pa_cons (pv 0) pa_nil)) (blkOk_by (own := [("at", 2), ("bound", 3)]) (N := ["zone", "side", "at", "bound"]) (sc := defScope s__law_later) (by decide +kernel)) (fun _ _ _ _ _ => pg_tupX rfl (pgs_cons (pg_name (i := 2) sc__law_later.nd rfl (by first | exact Or.inl rfl | exact Or.inr rfl | exact Or.inr (Or.inl rfl))) (pgs_cons (pg_name (i := 3) sc__law_later.nd rfl (by first | exact Or.inl rfl | exact Or.inr rfl | exact Or.inr (Or.inl rfl))) pgs_nil))) (fun _ _ _ _ _ => pts_nil) (fun _ _ _ _ _ => (pe_ifExp (PW.pt (pw_and (pt_cmpR op_eq (pe_op op_modN (pv 2) (pv 1)) pe_int (nomark _)) (pw_and1 (pt_cmpR op_gt (pv 2) pe_int (nomark _))))) pe_int (pv 3)))) pa_nil))))), ?_⟩
    refine ⟨_, rfl, a, tab n f, n, rfl, ha, tab_len n f, n2, n4, fun H1 s1 => ?_⟩
    have nn : n * n ≤ 16 := Nat.mul_le_mul n4 n4
    refine ⟨_, rfl, a, _, rfl, SqT.of (s1 _ _ ha), fun D1 hD1 => lcV_enumT (xs := tab n f) (i := 2) (j := 3) (fun i => V.int (laterF n f i)) hD1 (s1 _ _ ha) (by rw [tab_len, sizeLine_eq]; omega) (fun _ _ => rfl) (fun k x hx H2 Q2 s2 k2 => ?_) (fun H2 s2 h2 => ?_)⟩
    · have hk : k < n * n := by
        have := (List.getElem?_eq_some_iff.mp hx).1
        rwa [tab_len] at this
      rw [tab_get hk] at hx
      obtain rfl := Option.some.inj hx
      have q2 := k2 H2 (Same.refl _)
      have em : ((k : Int)).fmod (n : Int) = ((k % n : Nat) : Int) := by
        rw [Int.fmod_eq_emod_of_nonneg _ (by omega)]; rfl
      refine ⟨_, rfl, _, rfl, _, _, rfl, rfl, (show (n : Int) ≠ 0 by omega), rfl, _, rfl, ?_⟩
      show if decide (V.int ((k : Int).fmod (n : Int)) = V.int 0) = true then _ else _
      rw [em]
      by_cases a1 : k % n = 0
      · rw [if_pos (decide_eq_true (by rw [a1]; rfl))]
        refine ⟨_, rfl, _, _, rfl, rfl, _, rfl, ?_⟩
        by_cases a2 : 0 < k
        · have e : laterF n f k = 1000000 := if_pos ⟨a1, a2⟩
          rw [e] at q2
          show if decide ((0 : Int) < (k : Int)) = true then _ else _
          rw [if_pos (decide_eq_true (by omega))]
          exact q2
        · have e : laterF n f k = f k := if_neg fun z => a2 z.2
          rw [e] at q2
          show if decide ((0 : Int) < (k : Int)) = true then _ else _
          rw [if_neg (by rw [decide_eq_false (by omega)]; decide)]
          exact ⟨_, rfl, q2⟩
      · have e : laterF n f k = f k := if_neg fun z => a1 z.1
        rw [e] at q2
        rw [if_neg (by rw [decide_eq_false (fun z => a1 (by have := V.int.inj z; omega))]; decide)]
        exact ⟨_, rfl, q2⟩
    · rw [tab_len] at h2
      refine ⟨D1, _, rfl, .inl ⟨SqL.of h2, fun p hp => ?_⟩⟩
      have sB := s1.trans s2
      exact q p _ (sB.trans (same_upd hp)) (sB.free hp) upd_same
end
end My

namespace My
open PySem PySem.Spec PyProof.Rows L2
/-- _law_sixths(number) -/
def spSix : Sp := fun vs H Q _ => ∃ x : Nat, vs = [.int (x : Int)] ∧ x < 1000 ∧ ∀ (v : Fv) (H' : Hp), Same H H' → H v.a = Option.none → v.x = (x : Int) → v.ok → H' v.a = some (.tup [.int v.p, .int v.q]) → Q (.ref v.a) H'
/-- _law_keeps(value, word, number) -/
def spKeeps : Sp := fun vs H Q _ => ∃ (x : Int) (w : GRow), vs = [.int x, .str w.word, .int w.num] ∧ w.num.natAbs < 100 ∧ Q (.bl (w.keeps x)) H
/-- _law_values(pot, many) -/
def spVals : Sp := fun vs H Q _ => ∃ (p : Addr) (m n : Nat), vs = [.ref p, .int (m : Int)] ∧ PotAt H p n ∧ n + m < 2 ^ 60 ∧ m ≤ 3 ∧
  ∀ (t l g : Addr) (fs : List Fv) (H' : Hp), But p H H' → PotAt H' p (n + m) → H' t = some (.tup [.ref l, .ref g]) → l ≠ p → H' l = some (.lst ((fs.map (·.x)).map V.int)) → FracsAt H' g fs → fs.length = m → Q (.ref t) H'
/-- _law_guard_of(pot, many) -/
def spGuardOf : Sp := fun vs H Q _ => ∃ (p : Addr) (m n : Nat), vs = [.ref p, .int (m : Int)] ∧ PotAt H p n ∧ n + 100 < 2 ^ 60 ∧ 1 ≤ m ∧ m ≤ 3 ∧
  ∀ (g : Addr) (ps : List (Addr × GRow)) (H' : Hp), But p H H' → PotAt H' p (n + 10) → GuardAt H' g ps → ps.length ≤ 2 → (∀ w ∈ ps, w.2.okFor (m + 1)) → Q (.ref g) H'
theorem six_ok (a : Addr) (x : Nat) (hx : x < 1000) : (⟨a, ((x / Nat.gcd x 6 : Nat) : Int), ((6 / Nat.gcd x 6 : Nat) : Int), (x : Int)⟩ : Fv).ok := by
  have g1 : Nat.gcd x 6 ∣ x := Nat.gcd_dvd_left x 6
  have g2 : Nat.gcd x 6 ∣ 6 := Nat.gcd_dvd_right x 6
  have gp : 0 < Nat.gcd x 6 := Nat.gcd_pos_of_pos_right x (by decide)
  have gl : Nat.gcd x 6 ≤ 6 := Nat.le_of_dvd (by decide) g2
  have cop : Nat.gcd (x / Nat.gcd x 6) (6 / Nat.gcd x 6) = 1 := by
    rw [Nat.gcd_div g1 g2, Nat.div_self gp]
  obtain ⟨g, hg⟩ : ∃ g, g = Nat.gcd x 6 := ⟨_, rfl⟩
  rw [← hg] at g1 g2 gp gl cop ⊢
  obtain ⟨y, hy⟩ := g1
  obtain ⟨z, hz⟩ := g2
  have e1 : x / g = y := by rw [hy, Nat.mul_div_cancel_left _ gp]
  have e2 : 6 / g = z := by rw [hz, Nat.mul_div_cancel_left _ gp]
  rw [e1, e2] at cop ⊢
  have ym : y ≤ x := by rw [hy]; exact Nat.le_mul_of_pos_left y gp
  have zm : z ≤ 6 := by
    have : z ≤ g * z := Nat.le_mul_of_pos_left z gp
    omega
  have z1 : 1 ≤ z := by
    rcases Nat.eq_zero_or_pos z with h | h
    · rw [h] at hz; omega
    · exact h
  refine ⟨?_, ?_, ?_, ?_, ?_⟩
  · show 6 * (y : Int) = (x : Int) * (z : Int)
    have : 6 * y = x * z := by
      calc 6 * y = (g * z) * y := by rw [← hz]
        _ = (g * y) * z := by rw [Nat.mul_assoc, Nat.mul_comm z y, ← Nat.mul_assoc]
        _ = x * z := by rw [← hy]
    rw [← Int.natCast_mul, ← this]; rfl
  · show (1 : Int) ≤ (z : Int); omega
  · show (z : Int) ≤ 6; omega
  · show ((y : Int)).natAbs < 2 ^ 20; omega
  · show Int.gcd (y : Int) (z : Int) = 1
    rw [Int.gcd_natCast_natCast]; exact cop
section
variable {P : Program} {w : World} {K : PySem.W.Frag} {mg : Str → Option Value} {base : Heap} {A : Nat → Addr} {D : Nat → FuncData}
theorem ok_six (T : Txt K mg A D) : FnG P w K mg base CX0 1 (A 39) (D 39) ["number"] spSix := by
  refine def_ok0 T.F__law_sixths sc__law_sixths (fun vs H Q E h => ?_) (fun cdv Ar outer s H vs Q E hr hG h => ?_)
  · obtain ⟨x, rfl, _⟩ := h; rfl
  · obtain ⟨n, rfl, hn, q⟩ := h
    refine ⟨_, (pss_cons (ps_par (i := 1) (j := 2) (by rfl) sc__law_sixths.nd rfl rfl (by decide) rfl rfl (pa_cons (pe_callB call_abs (by rfl) T.n_abs (by decide +kernel) (pa_cons (pv 0) pa_nil)) (pa_cons pe_int pa_nil)) (by rfl))
      (pss_cons (ps_while (by first | exact PassesOwn.never | exact PassesOwn.leaving | exact L2.passes_of rfl) (pt_cmpR op_ne (pv 2) pe_int (nomark _)) (pss_one (ps_par (i := 1) (j := 2) (by rfl) sc__law_sixths.nd rfl rfl (by decide) rfl rfl (pa_cons (pv 2) (pa_cons (pe_op op_modN (pv 1) (pv 2)) pa_nil)) (by rfl))))
      (pss_one (ps_ret (pe_tup (pa_cons (pe_callTy call_int1 (by rfl) T.n_int (by decide +kernel) (pa_cons (pe_op op_fdivW (pv 0) (pv 1)) pa_nil)) (pa_cons (pe_callTy call_int1 (by rfl) T.n_int (by decide +kernel) (pa_cons (pe_op op_fdivW pe_int (pv 1)) pa_nil)) pa_nil))))))), ?_⟩
    refine ⟨_, rfl, _, rfl, _, _, rfl, ?_⟩
    rw [abs_if (n : Int)]
    refine while_by (fun σ H' => ∃ x y : Nat, σ = [some (.int (n : Int)), some (.int x), some (.int y)] ∧ Nat.gcd x y = Nat.gcd n 6 ∧ H' = H)
      (fun σ _ => match σ with | [_, _, some (.int y)] => y.natAbs | _ => 0) ⟨n, 6, rfl, rfl, rfl⟩ ?_ ?_
    · rintro σ H' ⟨x, y, rfl, eg, rfl⟩
      refine ⟨_, rfl, rfl, _, rfl, ite2 (fun e => ?_) (fun e => ?_)⟩
      · have hy : y ≠ 0 := by
          intro z
          subst z
          simp at e
        refine ⟨_, rfl, _, rfl, _, rfl, _, _, rfl, rfl, (show ((y : Nat) : Int) ≠ 0 by omega), _, _, rfl, ?_⟩
        refine ⟨⟨y, x % y, ?_, by rw [gcd_turn]; exact eg, rfl⟩, ?_⟩
        · show [some (V.int (n : Int)), some (V.int y), some (V.int ((x : Int).fmod (y : Int)))] = _
          rw [fmod_nat hy]
        · show ((x : Int).fmod (y : Int)).natAbs < ((y : Nat) : Int).natAbs
          rw [fmod_nat hy]
          have := Nat.mod_lt x (Nat.pos_of_ne_zero hy)
          omega
      · have hy : y = 0 := by
          have e2 : V.int (y : Int) = V.int 0 := by
            simpa using e
          have e3 := V.int.inj e2
          omega
        subst hy
        rw [Nat.gcd_zero_right] at eg
        subst eg
        have gp : 0 < Nat.gcd n 6 := Nat.gcd_pos_of_pos_right n (by decide)
        have gl : Nat.gcd n 6 ≤ 6 := Nat.le_of_dvd (by decide) (Nat.gcd_dvd_right n 6)
        have dv : ∀ i : Int, CDivW i ((Nat.gcd n 6 : Nat) : Int) := fun i => wide_div (b := 4) (by omega) (by omega) (by decide) (by decide)
        refine ⟨_, rfl, _, rfl, _, _, rfl, rfl, dv _, .inl ⟨_, rfl, _, rfl, _, _, rfl, rfl, dv _, .inl ⟨_, rfl, (by show 2 ≤ sizeLine; decide), fun p hp => ?_⟩⟩⟩
        refine q ⟨p, ((n / Nat.gcd n 6 : Nat) : Int), ((6 / Nat.gcd n 6 : Nat) : Int), (n : Int)⟩ _ (same_upd hp) hp rfl (six_ok p n hn) ?_
        rw [upd_same]; rfl
    · rintro σ H' Q1 Q2 hh ⟨v, e, sc, k, ek, q⟩
      exact ⟨v, e, sc, k, ek, hh _ _ q⟩
theorem ok_keeps (T : Txt K mg A D) : FnG P w K mg base CX0 1 (A 43) (D 43) ["value", "word", "number"] spKeeps := by
  refine def_ok0 T.F__law_keeps sc__law_keeps (fun vs H Q E h => ?_) (fun cdv Ar outer s H vs Q E hr hG h => ?_)
  · obtain ⟨x, w, rfl, _⟩ := h; rfl
  · obtain ⟨x, w, rfl, hb, q⟩ := h
    refine ⟨_, (pss_cons (ps_if (PW.pt (pw_and (pt_cmpR op_eq (pe_callB call_len_str (by rfl) T.n_len PySem.boot_len (pa_cons (pv 1) pa_nil)) pe_int (nomark _)) (pw_and1 (pt_cmpR op_eq (pv 0) (pe_op op_mulW pe_int (pv 2)) (nomark _))))) (pss_one (ps_ret pe_bl)) pss_nil)
      (pss_one (ps_ret (pe_ifExp (pt_cmpR op_eq (pe_ix ix_str (pv 1) pe_int (fun _ _ => rfl)) pe_str (nomark _)) (pe_cmpR op_lt (pv 0) (pe_op op_mulW pe_int (pv 2)) (nomark _)) (pe_cmpR op_gt (pv 0) (pe_op op_mulW pe_int (pv 2)) (nomark _)))))), ?_⟩
    refine ⟨_, rfl, _, rfl, word_sz w, rfl, _, rfl, ?_⟩
    show if decide (V.int ((w.word.length : Nat) : Int) = V.int 2) = true then _ else _
    rw [word_len]
    have mk : CMulW 6 w.num := wide_mul (a := 20) (b := 20) (by decide) (by omega) (by decide) (by decide) (by decide)
    cases hr2 : w.r with
    | true =>
      rw [if_pos rfl]
      refine ⟨_, rfl, _, rfl, _, _, rfl, rfl, mk, rfl, _, rfl, ?_⟩
      show if decide (V.int x = V.int (6 * w.num)) = true then _ else _
      by_cases y : x = 6 * w.num
      · rw [if_pos (decide_eq_true (by rw [y]))]
        unfold GRow.keeps at q
        rw [hr2, decide_eq_true y] at q
        exact q
      · rw [if_neg (by rw [decide_eq_false (fun z => y (V.int.inj z))]; decide)]
        refine ⟨_, rfl, w.word, 0, _, rfl, rfl, word_sz w, word_head w, rfl, _, rfl, ?_⟩
        show if decide (V.str ⟨#[if w.up = true then 60 else 62]⟩ = V.str "<") = true then _ else _
        rw [head_up]
        cases hu : w.up with
        | true =>
          rw [if_pos rfl]
          refine ⟨_, rfl, _, rfl, _, _, rfl, rfl, mk, _, _, rfl, rfl, ?_⟩
          unfold GRow.keeps at q
          rw [hu, hr2, decide_eq_false y] at q
          exact q
        | false =>
          rw [if_neg (by decide)]
          refine ⟨_, rfl, _, rfl, _, _, rfl, rfl, mk, _, _, rfl, rfl, ?_⟩
          unfold GRow.keeps at q
          rw [hu, hr2, decide_eq_false y] at q
          exact q
    | false =>
      rw [if_neg (by decide)]
      refine ⟨_, rfl, w.word, 0, _, rfl, rfl, word_sz w, word_head w, rfl, _, rfl, ?_⟩
      show if decide (V.str ⟨#[if w.up = true then 60 else 62]⟩ = V.str "<") = true then _ else _
      rw [head_up]
      cases hu : w.up with
      | true =>
        rw [if_pos rfl]
        refine ⟨_, rfl, _, rfl, _, _, rfl, rfl, mk, _, _, rfl, rfl, ?_⟩
        unfold GRow.keeps at q
        rw [hu, hr2] at q
        exact q
      | false =>
        rw [if_neg (by decide)]
        refine ⟨_, rfl, _, rfl, _, _, rfl, rfl, mk, _, _, rfl, rfl, ?_⟩
        unfold GRow.keeps at q
        rw [hu, hr2] at q
        exact q
theorem ok_vals (T : Txt K mg A D) : FnG P w K mg base CX0 2 (A 38) (D 38) ["pot", "many"] spVals := by
  have G__law_take := ok_take (P := P) (w := w) (base := base) T
  have G__law_sixths := ok_six (P := P) (w := w) (base := base) T
  refine def_ok0 T.F__law_values sc__law_values (fun vs H Q E h => ?_) (fun cdv Ar outer s H vs Q E hr hG h => ?_)
  · obtain ⟨p, m, n, rfl, _⟩ := h; rfl
  · obtain ⟨p, m, n, rfl, hp, hn, m3, q⟩ := h
    refine ⟨_, (pss_cons (ps_setLc (i := 2) (own := [("at", 3)]) (g := gName 3) (tt := tYes) (by rfl) sc__law_values.nd rfl rfl (sw_true rfl rfl rfl (by decide +kernel)) (pi_range1 rfl T.n_range (pa_cons (pv 1) pa_nil)) (blkOk_by (own := [("at", 3)]) (N := ["pot", "many", "values", "at", "value"]) (sc := defScope s__law_values) (by decide +kernel)) (fun _ _ _ _ _ => pg_name (i := 3) sc__law_values.nd rfl (by first | exact Or.inl rfl | exact Or.inr rfl | exact Or.inr (Or.inl rfl))) (fun _ _ _ _ _ => pts_nil) (fun _ _ _ _ _ => (pe_callTy call_int1 (by rfl) T.n_int (by decide +kernel) (pa_cons (pe_cg G__law_take (hr.mono (by first | decide | omega)) hG (by rfl) T.g__law_take T.F__law_take.kp T.b__law_take pass0 (pa_cons (pv 0) (pa_cons pe_int pa_nil))) pa_nil))))
      (pss_one (ps_ret (pe_tup (pa_cons (pv 2) (pa_cons (pe_callTy call_tuple_of (by rfl) T.n_tuple (by decide +kernel) (pa_cons (pe_lc (own := [("value", 4)]) (g := gName 4) (tt := tYes) (by rfl) sc__law_values.nd (pi_list (pv 2)) (blkOk_by (own := [("value", 4)]) (N := ["pot", "many", "values", "at", "value"]) (sc := defScope s__law_values) (by decide +kernel)) (fun _ _ _ _ _ => pg_name (i := 4) sc__law_values.nd rfl (by first | exact Or.inl rfl | exact Or.inr rfl | exact Or.inr (Or.inl rfl))) (fun _ _ _ _ _ => pts_nil) (fun _ _ _ _ _ => (pe_cg G__law_sixths (hr.mono (by first | decide | omega)) hG (by rfl) T.g__law_sixths T.F__law_sixths.kp T.b__law_sixths pass0 (pa_cons (pv 4) pa_nil)))) pa_nil)) pa_nil)))))), ?_⟩
    refine ⟨_, rfl, _, rfl, by omega, by omega, fun D1 hD1 => lc_range (lo := 0) (n := (m : Int).toNat) (vs := [3]) (fun i H' => ∃ xs : List Nat, xs.length = i ∧ (∀ x ∈ xs, x < 80) ∧ H' D1 = some (.lst (xs.map fun (x : Nat) => V.int (x : Int))) ∧ PotAt H' p (n + i) ∧ But p H H') ⟨[], rfl, (fun x h => by cases h), upd_same, hp.same (same_upd hD1), But.of (same_upd hD1)⟩ ?_ ?_⟩
    · rintro i H2 hi ⟨xs, lx, hx, hl, hp2, b2⟩
      have hDp : D1 ≠ p := hp.ne hD1
      refine ⟨rfl, _, rfl, p, 80, n + i, rfl, hp2, by omega, by decide, by decide, fun z H3 z0 z1 b3 hp3 => .inl ⟨z, rfl, ?_⟩⟩
      obtain ⟨y, rfl⟩ : ∃ y : Nat, z = y := ⟨z.toNat, by omega⟩
      refine ⟨_, b3 D1 _ hDp hl, ?_, xs ++ [y], by rw [List.length_append, lx]; rfl, fun x h => ?_, ?_, ?_, ?_⟩
      · rw [List.length_map, lx, sizeLine_eq]; omega
      · rcases List.mem_append.mp h with h | h
        · exact hx x h
        · rw [List.mem_singleton.mp h]; omega
      · rw [upd_same, List.map_append]; rfl
      · obtain ⟨o1, s1, c1, e1, e2⟩ := hp3
        exact ⟨o1, s1, c1, by rw [upd_ne hDp.symm]; exact e1, e2⟩
      · intro b o ne e
        rw [upd_ne (ne_of_none e hD1)]
        exact (b2.trans b3) b o ne e
    · rintro H2 ⟨xs, lx, hx, hl, hp2, b2⟩
      have hDp : D1 ≠ p := hp.ne hD1
      have lm : xs.length = m := by omega
      refine ⟨_, rfl, _, rfl, D1, rfl, ⟨_, SqL.of hl⟩, fun D2 hD2 => lc_list (K := K) (a := D1) (xs := xs.map fun (x : Nat) => V.int (x : Int)) (vs := [4]) (fun i H' => ∃ fs : List Fv, fs.map (·.x) = (xs.take i).map (fun (x : Nat) => (x : Int)) ∧ H' D2 = some (.lst (fs.map fun v => V.ref v.a)) ∧ (∀ v ∈ fs, H' v.a = some (.tup [.int v.p, .int v.q]) ∧ v.ok) ∧ Same H2 H') ⟨[], rfl, upd_same, (fun v h => by cases h), same_upd hD2⟩ (fun i H' _ ⟨_, _, _, _, s⟩ => SqL.of (s _ _ hl)) ?_ ?_⟩
      · rintro i x H3 hx3 ⟨fs, e1, e2, e3, s3⟩
        obtain ⟨y, ey, rfl⟩ : ∃ y, xs[i]? = some y ∧ x = V.int (y : Int) := by
          rw [List.getElem?_map] at hx3
          cases e : xs[i]? with
          | none => rw [e] at hx3; cases hx3
          | some z => rw [e] at hx3; exact ⟨z, rfl, (Option.some.inj hx3).symm⟩
        have yl := hx y (List.mem_of_getElem? ey)
        refine ⟨rfl, _, rfl, y, rfl, by omega, fun v H4 s4 nv ev okv hv => ?_⟩
        have ne : ∀ u : Addr, ∀ t, H4 u = some (.tup t) → u ≠ D2 := fun u t h z => by
          rw [z, s4 _ _ e2] at h; cases h
        have lf : fs.length = (xs.take i).length := by
          have := congrArg List.length e1
          rwa [List.length_map, List.length_map] at this
        refine ⟨_, s4 _ _ e2, ?_, fs ++ [v], ?_, ?_, fun u hu => ?_, fun b o e => ?_⟩
        · rw [List.length_map, lf, List.length_take, sizeLine_eq]; omega
        · rw [List.map_append, e1, take_step1 ey, List.map_append]
          show _ ++ [v.x] = _ ++ [(y : Int)]
          rw [ev]
        · rw [upd_same, List.map_append]; rfl
        · rcases List.mem_append.mp hu with hu | hu
          · obtain ⟨h1, h2⟩ := e3 u hu
            have h3 := s4 _ _ h1
            exact ⟨by rw [upd_ne (ne _ _ h3)]; exact h3, h2⟩
          · rw [List.mem_singleton.mp hu]
            exact ⟨by rw [upd_ne (ne _ _ hv)]; exact hv, okv⟩
        · rw [upd_ne (ne_of_none e hD2)]
          exact s4 _ _ (s3 _ _ e)
      · rintro H3 ⟨fs, e1, e2, e3, s3⟩
        rw [List.length_map, List.take_length] at e1
        refine ⟨D2, _, rfl, .inl ⟨SqL.of e2, fun g hg => ⟨(by show 2 ≤ sizeLine; decide), fun t ht => ?_⟩⟩⟩
        have s4 := fun o => s3.trans (same_upd (o := o) hg)
        have s5 := fun o => (s4 (.tup (fs.map fun v => V.ref v.a))).trans (same_upd (o := o) ht)
        have lf : fs.length = m := by
          have := congrArg List.length e1
          rwa [List.length_map, List.length_map, lm] at this
        have em : (m : Int).toNat = m := Int.toNat_natCast m
        rw [em] at hp2
        refine q t D1 g fs _ (b2.trans (But.of (s5 _))) (hp2.same (s5 _)) upd_same hDp ?_ ⟨(same_upd ht) _ _ upd_same, fun v hv => ?_⟩ lf
        · rw [e1, List.map_map]
          exact s5 _ _ _ hl
        · obtain ⟨h1, h2⟩ := e3 v hv
          exact ⟨(same_upd ht) _ _ ((same_upd hg) _ _ h1), h2⟩
theorem ok_gof (T : Txt K mg A D) : FnG P w K mg base CX0 3 (A 36) (D 36) ["pot", "many"] spGuardOf := by
  have G__law_take := ok_take (P := P) (w := w) (base := base) T
  have G__law_of := ok_of (P := P) (w := w) (base := base) T
  refine def_ok0 T.F__law_guard_of sc__law_guard_of (fun vs H Q E h => ?_) (fun cdv Ar outer s H vs Q E hr hG h => ?_)
  · obtain ⟨p, m, n, rfl, _⟩ := h; rfl
  · obtain ⟨p, m, n, rfl, hp, hn, m1, m3, q⟩ := h
    refine ⟨_, (pss_cons (ps_set (i := 2) sc__law_guard_of.nd rfl (Or.inl rfl) (pe_lst (pa_cons pe_str (pa_cons pe_str (pa_cons pe_str (pa_cons pe_str pa_nil))))))
      (pss_cons (ps_set (i := 3) sc__law_guard_of.nd rfl (Or.inl rfl) (pe_lst pa_nil))
      (pss_cons (ps_for (by first | exact PassesOwn.never | exact PassesOwn.leaving | exact L2.passes_of rfl) rfl (pi_range1 rfl T.n_range (pa_cons (pe_cg G__law_take (hr.mono (by first | decide | omega)) hG (by rfl) T.g__law_take T.F__law_take.kp T.b__law_take pass0 (pa_cons (pv 0) (pa_cons pe_int pa_nil))) pa_nil)) (pg_name (i := 4) sc__law_guard_of.nd rfl (Or.inl rfl)) (pss_one (ps_expr (pe_bm PySem.F.plainAttrs_list PySem.F.slot_list_append PySem.F.type_list_append mt_append (pv 3) (pa_cons (pe_tup (pa_cons (pe_callTy call_int1 (by rfl) T.n_int (by decide +kernel) (pa_cons (pe_cg G__law_take (hr.mono (by first | decide | omega)) hG (by rfl) T.g__law_take T.F__law_take.kp T.b__law_take pass0 (pa_cons (pv 0) (pa_cons (pv 1) pa_nil))) pa_nil)) (pa_cons (pe_cg G__law_of (hr.mono (by first | decide | omega)) hG (by rfl) T.g__law_of T.F__law_of.kp T.b__law_of pass0 (pa_cons (pv 0) (pa_cons (pv 2) pa_nil))) (pa_cons (pe_callTy call_int1 (by rfl) T.n_int (by decide +kernel) (pa_cons (pe_cg G__law_take (hr.mono (by first | decide | omega)) hG (by rfl) T.g__law_take T.F__law_take.kp T.b__law_take pass0 (pa_cons (pv 0) (pa_cons pe_int pa_nil))) pa_nil)) pa_nil)))) pa_nil)))))
      (pss_one (ps_ret (pe_callTy call_tuple_of (by rfl) T.n_tuple (by decide +kernel) (pa_cons (pv 3) pa_nil))))))), ?_⟩
    refine ⟨(by show 4 ≤ sizeLine; decide), fun l1 h1 => ⟨(by show 0 ≤ sizeLine; decide), fun l2 h2 => ?_⟩⟩
    have s1 := same_upd (o := .lst [.str "<", .str "<=", .str ">", .str ">="]) h1
    have s2 := fun o => s1.trans (same_upd (o := o) h2)
    have n1 : l1 ≠ p := hp.ne h1
    have n2 : l2 ≠ p := (hp.same s1).ne h2
    have w1 : (upd (upd H l1 (.lst [.str "<", .str "<=", .str ">", .str ">="])) l2 (.lst [])) l1 = some (.lst [.str "<", .str "<=", .str ">", .str ">="]) := (same_upd h2) _ _ upd_same
    have n12 : l1 ≠ l2 := fun z => by rw [z, upd_same] at w1; cases w1
    have h20 : H l2 = none := s1.free h2
    refine ⟨_, rfl, p, 3, n, rfl, hp.same (s2 _), by omega, by decide, by decide, fun j H3 j0 j1 b3 hp3 => ?_⟩
    refine ⟨j, rfl, by omega, by omega, for_range (fun i σ H' => ∃ (ps : List (Addr × GRow)) (u4 : Option V), σ = [some (.ref p), some (.int m), some (.ref l1), some (.ref l2), u4] ∧ ps.length = i ∧ H' l1 = some (.lst [.str "<", .str "<=", .str ">", .str ">="]) ∧ H' l2 = some (.lst (ps.map fun w => V.ref w.1)) ∧ (∀ w ∈ ps, H' w.1 = some (.tup [.int (w.2.k : Int), .str w.2.word, .int w.2.num]) ∧ w.2.okFor (m + 1)) ∧ PotAt H' p (n + 1 + 3 * i) ∧ But p H H') ⟨[], none, rfl, rfl, b3 l1 _ n1 w1, b3 l2 _ n2 upd_same, (fun w h => by cases h), hp3, (But.of (s2 _)).trans b3⟩ ?_ ?_⟩
    · rintro i σ H4 hi ⟨ps, u4, rfl, lp, e1, e2, e3, hp4, b4⟩
      refine ⟨_, rfl, .inl ⟨rfl, _, SqL.of e2⟩, ?_⟩
      refine ⟨_, rfl, _, rfl, p, (m : Int), _, rfl, hp4, by omega, by omega, by omega, fun k H5 k0 k1 b5 hp5 => .inl ⟨_, rfl, ?_⟩⟩
      refine ⟨_, rfl, _, rfl, p, l1, _, _, rfl, hp5, by omega, n1, SqL.of (b5 _ _ n1 e1), by simp, by decide, fun wv H6 hw b6 hp6 => ?_⟩
      refine ⟨_, rfl, p, 13, _, rfl, hp6, by omega, by decide, by decide, fun z H7 z0 z1 b7 hp7 => .inl ⟨_, rfl, (by show 3 ≤ sizeLine; decide), fun t ht => ?_⟩⟩
      have b47 : But p H4 H7 := (b5.trans b6).trans b7
      have st := fun o => same_upd (o := o) ht
      have e27 := st (.tup [.int k, wv, .int z]) _ _ (b47 _ _ n2 e2)
      obtain ⟨kk, rfl⟩ : ∃ kk : Nat, k = kk := ⟨k.toNat, by omega⟩
      obtain ⟨w, ew, hwk, hwn⟩ : ∃ w : GRow, wv = V.str w.word ∧ w.k = kk ∧ w.num = z := by
        simp only [List.mem_cons, List.not_mem_nil, or_false] at hw
        rcases hw with rfl | rfl | rfl | rfl
        · exact ⟨⟨kk, true, false, z⟩, rfl, rfl, rfl⟩
        · exact ⟨⟨kk, true, true, z⟩, rfl, rfl, rfl⟩
        · exact ⟨⟨kk, false, false, z⟩, rfl, rfl, rfl⟩
        · exact ⟨⟨kk, false, true, z⟩, rfl, rfl, rfl⟩
      refine ⟨l2, _, _, rfl, rfl, e27, ?_, ?_⟩
      · rw [List.length_map, lp, sizeLine_eq]; omega
      have ne2 : ∀ {u : Addr} {o : HO} {xs : List V}, o = .tup xs → (upd H7 t (.tup [.int (kk : Int), wv, .int z])) u = some o → u ≠ l2 := fun eo h y => by
        rw [y, e27, eo] at h; cases h
      have nep : ∀ {u : Addr} {xs : List V}, H4 u = some (.tup xs) → u ≠ p := fun h y => by
        obtain ⟨o1, s1, c1, e1, e2⟩ := hp4
        rw [y, e1] at h; cases h
      have tp : t ≠ p := hp7.ne ht
      refine ⟨ps ++ [(t, w)], _, rfl, by rw [List.length_append, lp]; rfl, ?_, ?_, fun x hx => ?_, ?_, ?_⟩
      · rw [upd_ne n12]; exact st _ _ _ (b47 _ _ n1 e1)
      · rw [upd_same, List.map_append]; rfl
      · rcases List.mem_append.mp hx with hx | hx
        · obtain ⟨g1, g2⟩ := e3 x hx
          have g3 := st (.tup [.int (kk : Int), wv, .int z]) _ _ (b47 _ _ (nep g1) g1)
          exact ⟨by rw [upd_ne (ne2 rfl g3)]; exact g3, g2⟩
        · rw [List.mem_singleton.mp hx]
          have g3 : (upd H7 t (.tup [.int (kk : Int), wv, .int z])) t = some (.tup [.int (kk : Int), wv, .int z]) := upd_same
          refine ⟨?_, ?_⟩
          · rw [upd_ne (ne2 rfl g3), g3, ew, hwk, hwn]
          · refine ⟨?_, ?_, ?_⟩
            · show w.k + 1 < m + 1; omega
            · rw [hwn]; exact z0
            · rw [hwn]; omega
      · have hp8 := (hp7.same (st (.tup [.int (kk : Int), wv, .int z]))).mono (show _ ≤ n + 1 + 3 * (i + 1) by omega)
        obtain ⟨o1, s1, c1, e1, e2⟩ := hp8
        exact ⟨o1, s1, c1, by rw [upd_ne n2.symm]; exact e1, e2⟩
      · intro b o ne e
        rw [upd_ne (ne_of_none e h20)]
        exact st _ _ _ (b47 _ _ ne (b4 _ _ ne e))
    · rintro σ H4 ⟨ps, u4, rfl, lp, e1, e2, e3, hp4, b4⟩
      refine ⟨_, rfl, l2, _, rfl, .inl ⟨SqL.of e2, fun g hg => ?_⟩⟩
      have st := fun o => same_upd (o := o) hg
      exact q g ps _ (b4.trans (But.of (st _))) ((hp4.same (st _)).mono (by omega)) ⟨upd_same, fun w hw => st _ _ _ (e3 w hw).1⟩ (by omega) fun w hw => (e3 w hw).2
end
end My

namespace My
open PySem PySem.Spec PyProof.Rows L2
theorem ZnAt.but {H H' : Hp} {p : Addr} {k : Nat} {v : V} {n : Nat} {B : Int} {f : Nat → Int} (h : ZnAt H v n B f) (hp : PotAt H p k) (b : But p H H') : ZnAt H' v n B f := by
  obtain ⟨a, e, h, z⟩ := h
  exact ⟨a, e, hp.kt b _ _ h, z⟩
theorem ZnAt.mono {H : Hp} {v : V} {n : Nat} {B C : Int} {f : Nat → Int} (h : ZnAt H v n B f) (l : B ≤ C) (u : C ≤ 100000) : ZnAt H v n C f := by
  obtain ⟨a, e, h, z⟩ := h
  exact ⟨a, e, h, z.mono l u⟩
theorem later_far {n : Nat} {f : Nat → Int} (hn : 2 ≤ n) : ∀ i, 0 < i → i < n → laterF n f (i * n + 0) = 1000000 := fun i h1 h2 => by
  rw [later_at hn (by omega), if_pos ⟨rfl, h1⟩]
theorem GuardAt.but {H H' : Hp} {p : Addr} {k : Nat} {g : Addr} {ps : List (Addr × GRow)} (h : GuardAt H g ps) (hp : PotAt H p k) (b : But p H H') : GuardAt H' g ps := ⟨hp.kt b _ _ h.1, fun w hw => hp.kt b _ _ (h.2 w hw)⟩
theorem begin_zn {n : Nat} (h1 : 1 ≤ n) (h3 : n ≤ 3) : Zn (n + 1) 1 (fun _ => 1) :=
  ⟨by omega, by omega, by decide, by decide, fun _ _ => rfl, fun _ _ => ⟨by decide, by decide⟩, fun _ _ _ _ => .inr (by decide), fun _ _ _ _ _ _ => by decide⟩
/-- _law_drawn_zone(pot, many, laps) -/
def spDrawn : Sp := fun vs H Q _ => ∃ (p : Addr) (m l n : Nat), vs = [.ref p, .int (m : Int), .int (l : Int)] ∧ PotAt H p n ∧ n + 1000 < 2 ^ 60 ∧ 1 ≤ m ∧ m ≤ 3 ∧ l ≤ 8 ∧
  ∀ v f H', But p H H' → PotAt H' p (n + 200) → ZnAt H' v (m + 1) 4801 f → Q v H'
/-- _law_is_zone(value) -/
def spLIsZone : Sp := fun vs H Q _ => ∃ (v : V) (o : Option (List V)), vs = [v] ∧ ZV H v o ∧ ∀ H', Same H H' → Q (.bl (zoneAny o)) H'
/-- _law_is_later(zone, values) -/
def spIsLater : Sp := fun vs H Q _ => ∃ (v : V) (g : Addr) (n : Nat) (B : Int) (f : Nat → Int) (zs : List Int), vs = [v, .ref g] ∧ ZnAt H v n B f ∧ H g = some (.lst (zs.map V.int)) ∧ zs.length = n - 1 ∧ ∀ H', Same H H' → Q (.bl (inB n (laterF n f) (xI zs))) H'
theorem len_in (n : Nat) : (if true = true then !inV (.int (n : Int)) [.int 4, .int 9, .int 16] else inV (.int (n : Int)) [.int 4, .int 9, .int 16]) = !decide (n = 4 ∨ n = 9 ∨ n = 16) := by
  rw [if_pos rfl]
  congr 1
  rw [Bool.eq_iff_iff, decide_eq_true_eq]
  unfold inV
  simp only [List.any_cons, List.any_nil, Bool.or_false, Bool.or_eq_true, eqV, beq_iff_eq]
  omega
theorem zone_no {xs : List V} (h : ¬ (xs.length = 4 ∨ xs.length = 9 ∨ xs.length = 16)) : zoneAny (some xs) = false := by
  have z : ∀ n, n = 2 ∨ n = 3 ∨ n = 4 → zoneB n xs = false := fun n hn => by
    unfold zoneB
    rw [decide_eq_false (by rcases hn with rfl | rfl | rfl <;> omega)]; rfl
  show (zoneB 2 xs || (zoneB 3 xs || (zoneB 4 xs || false))) = false
  rw [z 2 (by decide), z 3 (by decide), z 4 (by decide)]; rfl
theorem sq_inj {m n : Nat} (hm : m ≤ 4) (n2 : 2 ≤ n) (n4 : n ≤ 4) (h : m * m = n * n) : m = n := by
  have cm : m = 0 ∨ m = 1 ∨ m = 2 ∨ m = 3 ∨ m = 4 := by omega
  have cn : n = 2 ∨ n = 3 ∨ n = 4 := by omega
  rcases cm with rfl | rfl | rfl | rfl | rfl <;> rcases cn with rfl | rfl | rfl <;> omega
theorem zone_yes {xs : List V} {n : Nat} (n2 : 2 ≤ n) (n4 : n ≤ 4) (h : xs.length = n * n) : zoneAny (some xs) = (xs.all isIntV && zoneI n (toFn xs)) := by
  have y : zoneB n xs = (xs.all isIntV && zoneI n (toFn xs)) := by
    unfold zoneB
    rw [decide_eq_true h]; rfl
  have z : ∀ m, m ≤ 4 → m ≠ n → zoneB m xs = false := fun m hm e => by
    unfold zoneB
    rw [decide_eq_false (fun hh => e (sq_inj hm n2 n4 (hh.symm.trans h)))]; rfl
  rw [← y]
  show (zoneB 2 xs || (zoneB 3 xs || (zoneB 4 xs || false))) = _
  have c : n = 2 ∨ n = 3 ∨ n = 4 := by omega
  rcases c with rfl | rfl | rfl
  · rw [z 3 (by decide) (by decide), z 4 (by decide) (by decide)]; simp
  · rw [z 2 (by decide) (by decide), z 4 (by decide) (by decide)]; simp
  · rw [z 2 (by decide) (by decide), z 3 (by decide) (by decide)]; simp
theorem not_gt (n : Nat) (f : Nat → Int) : (!((List.range n).any fun c => decide (f (0 * n + c) > 1))) = (List.range n).all fun c => decide (f c ≤ 1) := by
  rw [List.not_any_eq_all_not]
  congr 1
  funext c
  rw [Nat.zero_mul, Nat.zero_add, ← decide_not]
  exact decide_eq_decide.mpr Int.not_lt
theorem cut_tab {n : Nat} {f : Nat → Int} : cutV (tab n f) none (some (n : Int)) = (List.range n).map fun i => V.int (f i) := by
  unfold cutV
  rw [tab_len]
  have e1 : HT.sIx (n * n) 0 none = 0 := rfl
  have l : n ≤ n * n := by
    cases n with
    | zero => omega
    | succ k => exact Nat.le_mul_of_pos_left _ (by omega)
  have e2 : HT.sIx (n * n) (n * n) (some (n : Int)) = n := by rw [HT.sIx_nat, Nat.min_eq_left l]
  rw [e1, e2, List.drop_zero, Nat.sub_zero]
  unfold tab
  rw [← List.map_take, List.take_range, Nat.min_eq_left l]
section
variable {P : Program} {w : World} {K : PySem.W.Frag} {mg : Str → Option Value} {base : Heap} {A : Nat → Addr} {D : Nat → FuncData}
theorem ok_drawn (T : Txt K mg A D) : FnG P w K mg base CX0 7 (A 37) (D 37) ["pot", "many", "laps"] spDrawn := by
  have G__law_take := ok_take (P := P) (w := w) (base := base) T
  have G__law_guard_of := ok_gof (P := P) (w := w) (base := base) T
  have G_first_zone := ok_first (P := P) (w := w) (base := base) T
  have G_later_zone := ok_later (P := P) (w := w) (base := base) T
  have G_zone_set := ok_set (P := P) (w := w) (base := base) T
  have G_zone_with := ok_with (P := P) (w := w) (base := base) T
  refine def_ok0 T.F__law_drawn_zone sc__law_drawn_zone (fun vs H Q E h => ?_) (fun cdv Ar outer s H vs Q E hr hG h => ?_)
  · obtain ⟨p, m, l, n, rfl, _⟩ := h; rfl
  · obtain ⟨p, m, l, n, rfl, hp, hn, m1, m3, l8, q⟩ := h
    refine ⟨_, (pss_cons (ps_set (i := 3) sc__law_drawn_zone.nd rfl (Or.inl rfl) (pe_cg G_first_zone (hr.mono (by first | decide | omega)) hG (by rfl) T.g_first_zone T.F_first_zone.kp T.b_first_zone pass0 (pa_cons (pv 1) pa_nil)))
      (pss_cons (ps_for (by first | exact PassesOwn.never | exact PassesOwn.leaving | exact L2.passes_of rfl) rfl (pi_range1 rfl T.n_range (pa_cons (pv 2) pa_nil)) (pg_name (i := 4) sc__law_drawn_zone.nd rfl (Or.inl rfl)) (pss_cons (ps_set (i := 5) sc__law_drawn_zone.nd rfl (Or.inl rfl) (pe_cg G__law_take (hr.mono (by first | decide | omega)) hG (by rfl) T.g__law_take T.F__law_take.kp T.b__law_take pass0 (pa_cons (pv 0) (pa_cons pe_int pa_nil))))
      (pss_one (ps_if (pt_cmpR op_eq (pv 5) pe_int (nomark _)) (pss_one (ps_set (i := 3) sc__law_drawn_zone.nd rfl (Or.inl rfl) (pe_cg G_later_zone (hr.mono (by first | decide | omega)) hG (by rfl) T.g_later_zone T.F_later_zone.kp T.b_later_zone pass0 (pa_cons (pv 3) pa_nil)))) (pss_one (ps_if (pt_cmpR op_eq (pv 5) pe_int (nomark _)) (pss_one (ps_set (i := 3) sc__law_drawn_zone.nd rfl (Or.inl rfl) (pe_cg G_zone_set (hr.mono (by first | decide | omega)) hG (by rfl) T.g_zone_set T.F_zone_set.kp T.b_zone_set pass0 (pa_cons (pv 3) (pa_cons (pe_tup (pa_cons (pe_callTy call_int1 (by rfl) T.n_int (by decide +kernel) (pa_cons (pe_cg G__law_take (hr.mono (by first | decide | omega)) hG (by rfl) T.g__law_take T.F__law_take.kp T.b__law_take pass0 (pa_cons (pv 0) (pa_cons (pv 1) pa_nil))) pa_nil)) pa_nil)) pa_nil))))) (pss_cons (ps_set (i := 6) sc__law_drawn_zone.nd rfl (Or.inl rfl) (pe_cg G_zone_with (hr.mono (by first | decide | omega)) hG (by rfl) T.g_zone_with T.F_zone_with.kp T.b_zone_with pass0 (pa_cons (pe_cg G_later_zone (hr.mono (by first | decide | omega)) hG (by rfl) T.g_later_zone T.F_later_zone.kp T.b_later_zone pass0 (pa_cons (pv 3) pa_nil)) (pa_cons (pe_cg G__law_guard_of (hr.mono (by first | decide | omega)) hG (by rfl) T.g__law_guard_of T.F__law_guard_of.kp T.b__law_guard_of pass0 (pa_cons (pv 0) (pa_cons (pv 1) pa_nil))) pa_nil))))
      (pss_one (ps_set (i := 3) sc__law_drawn_zone.nd rfl (Or.inl rfl) (pe_ifExp (pt_cmpR op_isN (pv 6) pe_non (nomark _)) (pv 3) (pv 6)))))))))))
      (pss_one (ps_ret (pv 3))))), ?_⟩
    refine ⟨_, rfl, m, rfl, m1, m3, fun z0 H1 s1 nz h1 => ?_⟩
    refine ⟨_, rfl, _, rfl, by omega, by omega, for_range (fun i σ H' => ∃ v f u4 u5 u6, σ = [some (.ref p), some (.int m), some (.int l), some v, u4, u5, u6] ∧ ZnAt H' v (m + 1) (1 + 600 * (i : Int)) f ∧ PotAt H' p (n + 20 * i) ∧ But p H H') ⟨.ref z0, _, none, none, none, rfl, ⟨z0, rfl, h1, begin_zn m1 m3⟩, hp.same s1, But.of s1⟩ ?_ ?_⟩
    · rintro i σ H2 hi ⟨v, f, u4, u5, u6, rfl, z2, hp2, b2⟩
      rw [Int.toNat_natCast] at hi
      refine ⟨_, rfl, p, 3, _, rfl, hp2, by omega, by decide, by decide, fun j H3 j0 j1 b3 hp3 => ?_⟩
      have z3 := z2.but hp2 b3
      have b23 := b2.trans b3
      refine ⟨_, rfl, rfl, _, rfl, ite2 (fun e => ?_) (fun e => ?_)⟩
      · refine ⟨v, rfl, v, _, _, f, rfl, z3, fun z4 H4 s4 nz4 h4 => ?_⟩
        exact ⟨_, _, _, _, _, rfl, h4.mono (by omega) (by omega), (hp3.same s4).mono (by omega), b23.trans (But.of s4)⟩
      · refine ⟨_, rfl, rfl, _, rfl, ite2 (fun e => ?_) (fun e => ?_)⟩
        · refine ⟨v, rfl, _, rfl, _, rfl, p, (m : Int), _, rfl, hp3, by omega, by omega, by omega, fun k H4 k0 k1 b4 hp4 => .inl ⟨_, rfl, (by show 1 ≤ sizeLine; decide), fun t ht => ?_⟩⟩
          obtain ⟨kk, rfl⟩ : ∃ kk : Nat, k = kk := ⟨k.toNat, by omega⟩
          have st := same_upd (o := .tup [.int (kk : Int)]) ht
          refine ⟨v, t, _, _, f, [kk], rfl, (z3.but hp3 b4).same st, upd_same, (show 1 ≤ 1000 by decide), fun x hx => ?_, fun z5 H5 s5 nz5 h5 => ?_⟩
          · rw [List.mem_singleton.mp hx]; omega
          · exact ⟨_, _, _, _, _, rfl, h5.mono (by omega) (by omega), ((hp4.same st).same s5).mono (by omega), ((b23.trans b4).trans (But.of st)).trans (But.of s5)⟩
        · refine ⟨v, rfl, v, _, _, f, rfl, z3, fun z4 H4 s4 nz4 h4 => ?_⟩
          refine ⟨_, rfl, _, rfl, p, m, _, rfl, hp3.same s4, by omega, m1, m3, fun g ps H5 b5 hp5 g5 l5 ok5 => ?_⟩
          have h5 := h4.but (hp3.same s4) b5
          have B5 := (b23.trans (But.of s4)).trans b5
          have lf := later_far (n := m + 1) (f := f) (by omega)
          refine ⟨_, g, _, _, _, ps, rfl, h5, by omega, lf, g5, by omega, ok5, fun y H6 s6 => ?_, fun y z6 H6 s6 nz6 h6 => ?_⟩
          · have z6 := ((z3.same s4).but (hp3.same s4) b5).same s6
            refine ⟨_, rfl, rfl, _, rfl, ite2 (fun _ => ?_) (fun e => absurd (decide_eq_true rfl) e)⟩
            exact ⟨_, rfl, _, _, _, _, _, rfl, z6.mono (by omega) (by omega), (hp5.same s6).mono (by omega), B5.trans (But.of s6)⟩
          · refine ⟨_, rfl, rfl, _, rfl, ite2 (fun e => ?_) (fun e => ?_)⟩
            · have e2 : V.ref z6 = V.non := of_decide_eq_true e
              cases e2
            · exact ⟨_, rfl, _, _, _, _, _, rfl, h6.mono (by omega) (by omega), (hp5.same s6).mono (by omega), B5.trans (But.of s6)⟩
    · rintro σ H2 ⟨v, f, u4, u5, u6, rfl, z2, hp2, b2⟩
      rw [Int.toNat_natCast] at z2 hp2
      exact ⟨_, rfl, q v f H2 b2 (hp2.mono (by omega)) (z2.mono (by omega) (by decide))⟩
theorem ok_liszone (T : Txt K mg A D) : FnG P w K mg base CX0 3 (A 40) (D 40) ["value"] spLIsZone := by
  have G__law_side := ok_lside (P := P) (w := w) (base := base) T
  have G__law_tight := ok_ltight (P := P) (w := w) (base := base) T
  refine def_ok0 T.F__law_is_zone sc__law_is_zone (fun vs H Q E h => ?_) (fun cdv Ar outer s H vs Q E hr hG h => ?_)
  · obtain ⟨v, o, rfl, _⟩ := h; rfl
  · obtain ⟨v, o, rfl, z, q⟩ := h
    refine ⟨_, (pss_cons (ps_if (PW.pt (pw_or (pt_not (pt_val (pe_callB call_isi (by rfl) T.n_isinstance (by decide +kernel) (pa_cons (pv 0) (pa_cons (pe_bltn (v := .ty "tuple") (by rfl) T.n_tuple (by decide +kernel) rfl) pa_nil))))) (pw_or1 (pt_cmpR op_notIn_seq (pe_callB call_len_seq (by rfl) T.n_len PySem.boot_len (pa_cons (pv 0) pa_nil)) (pe_tup (pa_cons pe_int (pa_cons pe_int (pa_cons pe_int pa_nil)))) (by rfl))))) (pss_one (ps_ret pe_bl)) pss_nil)
      (pss_cons (ps_if (pt_not (pt_val (pe_callB (cr_all rfl) (by rfl) T.n_all (by decide +kernel) (pa_cons (pe_lc (own := [("bound", 2)]) (g := gName 2) (tt := tYes) (by rfl) sc__law_is_zone.nd (pi_tup (pv 0)) (blkOk_by (own := [("bound", 2)]) (N := ["value", "side", "bound", "at"]) (sc := defScope s__law_is_zone) (by decide +kernel)) (fun _ _ _ _ _ => pg_name (i := 2) sc__law_is_zone.nd rfl (by first | exact Or.inl rfl | exact Or.inr rfl | exact Or.inr (Or.inl rfl))) (fun _ _ _ _ _ => pts_nil) (fun _ _ _ _ _ => (pe_and (pe_callB (id := "isinstance") (call_isiX (K := K)) (by rfl) T.n_isinstance (by decide +kernel) (pa_cons (pv 2) (pa_cons (pe_bltn (v := .ty "int") (by rfl) T.n_int (by decide +kernel) rfl) pa_nil))) (pe_one (pe_not (pe_callB (id := "isinstance") (call_isiX (K := K)) (by rfl) T.n_isinstance (by decide +kernel) (pa_cons (pv 2) (pa_cons (pe_bltn (v := .ty "bool") (by rfl) T.n_bool (by decide +kernel) rfl) pa_nil)))))))) pa_nil)))) (pss_one (ps_ret pe_bl)) pss_nil)
      (pss_cons (ps_if (pt_not (pt_val (pe_callB (cr_all rfl) (by rfl) T.n_all (by decide +kernel) (pa_cons (pe_lc (own := [("bound", 2)]) (g := gName 2) (tt := tYes) (by rfl) sc__law_is_zone.nd (pi_tup (pv 0)) (blkOk_by (own := [("bound", 2)]) (N := ["value", "side", "bound", "at"]) (sc := defScope s__law_is_zone) (by decide +kernel)) (fun _ _ _ _ _ => pg_name (i := 2) sc__law_is_zone.nd rfl (by first | exact Or.inl rfl | exact Or.inr rfl | exact Or.inr (Or.inl rfl))) (fun _ _ _ _ _ => pts_nil) (fun _ _ _ _ _ => (pe_or (pe_cmpR op_eq (pv 2) pe_int (nomark _)) (pe_one (pe_chain op_le op_le (pe_un un_neg pe_int) (pv 2) pe_int))))) pa_nil)))) (pss_one (ps_ret pe_bl)) pss_nil)
      (pss_cons (ps_set (i := 1) sc__law_is_zone.nd rfl (Or.inr rfl) (pe_cg G__law_side (hr.mono (by first | decide | omega)) hG (by rfl) T.g__law_side T.F__law_side.kp T.b__law_side pass0 (pa_cons (pv 0) pa_nil)))
      (pss_cons (ps_if (pt_not (pt_val (pe_callB (cr_all rfl) (by rfl) T.n_all (by decide +kernel) (pa_cons (pe_lc (own := [("at", 3)]) (g := gName 3) (tt := tYes) (by rfl) sc__law_is_zone.nd (pi_range1 rfl T.n_range (pa_cons (pv 1) pa_nil)) (blkOk_by (own := [("at", 3)]) (N := ["value", "side", "bound", "at"]) (sc := defScope s__law_is_zone) (by decide +kernel)) (fun _ _ _ _ _ => pg_name (i := 3) sc__law_is_zone.nd rfl (by first | exact Or.inl rfl | exact Or.inr rfl | exact Or.inr (Or.inl rfl))) (fun _ _ _ _ _ => pts_nil) (fun _ _ _ _ _ => (pe_cmpR op_eq (pe_ix (ix_tupX (K := K)) (pv 0) (pe_op op_add (pe_op op_mulW (pv 3) (pv 1)) (pv 3)) (fun _ _ => rfl)) pe_int (nomark _)))) pa_nil)))) (pss_one (ps_ret pe_bl)) pss_nil)
      (pss_one (ps_ret (pe_and (pe_callB (cr_all rfl) (by rfl) T.n_all (by decide +kernel) (pa_cons (pe_lc (own := [("bound", 2)]) (g := gName 2) (tt := tYes) (by rfl) sc__law_is_zone.nd (pi_tup (pe_slice sl_tup (pv 0) po_none (po_some (pv 1)))) (blkOk_by (own := [("bound", 2)]) (N := ["value", "side", "bound", "at"]) (sc := defScope s__law_is_zone) (by decide +kernel)) (fun _ _ _ _ _ => pg_name (i := 2) sc__law_is_zone.nd rfl (by first | exact Or.inl rfl | exact Or.inr rfl | exact Or.inr (Or.inl rfl))) (fun _ _ _ _ _ => pts_nil) (fun _ _ _ _ _ => (pe_cmpR op_le (pv 2) pe_int (nomark _)))) pa_nil)) (pe_one (pe_cmpR (op_eqD hr.units) (pe_cg G__law_tight (hr.mono (by first | decide | omega)) hG (by rfl) T.g__law_tight T.F__law_tight.kp T.b__law_tight pass0 (pa_cons (pv 0) (pa_cons (pv 1) pa_nil))) (pv 0) (nomark _))))))))))), ?_⟩
    have dv : ∀ x y : Int, decide (V.int x = V.int y) = decide (x = y) := fun x y => decide_eq_decide.mpr ⟨V.int.inj, fun y => by rw [y]⟩
    cases z with
    | no h =>
      obtain ⟨ty, kt, et⟩ := h.kTup (K := K)
      refine ⟨_, rfl, v, .ty "tuple", ty, _, _, rfl, .ty _, kt, et, _, rfl, ?_⟩
      exact q _ (Same.refl _)
    | @tup a xs h k l =>
      obtain ⟨ty, kt, et⟩ := kTup (K := K) h
      refine ⟨_, rfl, _, .ty "tuple", ty, _, _, rfl, .ty _, kt, et, _, rfl, ?_⟩
      refine ⟨_, rfl, a, xs, rfl, .inr (SqT.of h), (by show 3 ≤ sizeLine; decide), fun t ht => ?_⟩
      have s0 := same_upd (o := .tup [.int 4, .int 9, .int 16]) ht
      refine ⟨t, _, rfl, .inr (SqT.of upd_same), rfl, rfl, _, rfl, ?_⟩
      rw [len_in]
      refine ite2 (fun e => ?_) (fun e => ?_)
      · have := q _ s0
        rwa [zone_no (fun y => by rw [decide_eq_true y] at e; cases e)] at this
      obtain ⟨n, n2, n4, el⟩ : ∃ n, 2 ≤ n ∧ n ≤ 4 ∧ xs.length = n * n := by
        have y : xs.length = 4 ∨ xs.length = 9 ∨ xs.length = 16 := Decidable.byContradiction fun y => e (by rw [decide_eq_false y]; rfl)
        rcases y with y | y | y
        · exact ⟨2, by decide, by decide, y⟩
        · exact ⟨3, by decide, by decide, y⟩
        · exact ⟨4, by decide, by decide, y⟩
      clear e
      have zb := zone_yes n2 n4 el
      rw [zb] at q
      have h1 := s0 _ _ h
      refine ⟨_, rfl, a, rfl, ⟨_, SqT.of h1⟩, fun D1 hD1 => lcW_tup (ys := xs) (fun y => y) (fun y => V.bl (isIntV y)) hD1 (by rw [List.map_id']; exact h1) (by rw [sizeLine_eq]; omega) (fun y hy H1 Q1 s1 k1 => ?_) (fun H1 s1 h1 => ⟨D1, xs.map isIntV, rfl, SqL.of (by rw [h1, List.map_map]; rfl), _, rfl, ?_⟩)⟩
      · have kk := ((k y hy).same s0).same s1
        obtain ⟨t1, ty1, e1⟩ := kk.kInt (K := K)
        obtain ⟨t2, ty2, e2⟩ := kk.kBool (K := K)
        refine ⟨y, rfl, y, .ty "int", t1, _, _, rfl, .ty _, ty1, e1, _, rfl, ?_⟩
        have k2 := k1 _ (Same.refl _)
        by_cases z : (isIntV y || isBlV y) = true
        · rw [if_pos z]
          refine ⟨y, rfl, y, .ty "bool", t2, _, _, rfl, .ty _, ty2, e2, _, rfl, ?_⟩
          rw [isInt_and z]; exact k2
        · rw [if_neg z]
          rw [isInt_no z] at k2; exact k2
      have ea : (xs.map isIntV).all id = xs.all isIntV := by rw [List.all_map]; rfl
      rw [ea]
      cases ei : xs.all isIntV with
      | false =>
        have := q _ (s0.trans s1)
        rw [ei] at this
        exact this
      | true =>
        refine ite2 (fun e => absurd e (by decide)) fun _ => ?_
        rw [ei, Bool.true_and] at q
        obtain ⟨zs, hzs⟩ := all_int ei
        obtain ⟨f, hf⟩ : ∃ f, f = toFn xs := ⟨_, rfl⟩
        have ht : xs = tab n f := by
          rw [hf, hzs]
          exact ints_tab (by rw [hzs, List.length_map] at el; exact el)
        rw [← hf] at q
        have s01 := s0.trans s1
        have h2 : H1 a = some (.tup (tab n f)) := by rw [← ht]; exact s01 _ _ h
        have q2 : ∀ H', Same H1 H' → Q (.bl (zoneI n f)) H' := fun H' s => q H' (s01.trans s)
        have nn : n * n ≤ 16 := Nat.mul_le_mul n4 n4
        clear q el zb ei hzs hf ht h k l ea h1 hD1 kt et
        refine ⟨_, rfl, a, rfl, ⟨_, SqT.of h2⟩, fun D2 hD2 => lcW_tup (ys := List.range (n * n)) (fun i => V.int (f i)) (fun i => V.bl (decide (f i = 1000000) || (decide (-200000 ≤ f i) && decide (f i ≤ 200000)))) hD2 h2 (by rw [List.length_range, sizeLine_eq]; omega) (fun i hi H2 Q2 s2 k2 => ?_) (fun H2 s2 h3 => ⟨D2, (List.range (n * n)).map (fun i => decide (f i = 1000000) || (decide (-200000 ≤ f i) && decide (f i ≤ 200000))), rfl, SqL.of (by rw [h3, List.map_map]; rfl), _, rfl, ?_⟩)⟩
        · refine ⟨_, rfl, rfl, _, rfl, ?_⟩
          have k3 := k2 H2 (Same.refl _)
          by_cases y : f i = 1000000
          · have e3 : (decide (V.int (f i) = V.int 1000000)) = true := by rw [y]; rfl
            rw [if_pos e3]
            rw [decide_eq_true y] at k3
            exact k3
          · have e3 : ¬ (decide (V.int (f i) = V.int 1000000)) = true := fun z => y (V.int.inj (of_decide_eq_true z))
            rw [if_neg e3]
            rw [decide_eq_false y, Bool.false_or] at k3
            refine ⟨_, rfl, _, rfl, _, _, rfl, rfl, _, rfl, ?_⟩
            by_cases z : -200000 ≤ f i
            · rw [decide_eq_true z] at k3
              rw [if_pos (decide_eq_true z)]
              exact ⟨_, _, rfl, rfl, k3⟩
            · rw [decide_eq_false z] at k3
              rw [if_neg (by rw [decide_eq_false z]; decide)]
              exact k3
        · have z1 : ((List.range (n * n)).map (fun i => decide (f i = 1000000) || (decide (-200000 ≤ f i) && decide (f i ≤ 200000)))).all id = (List.range (n * n)).all (fun i => decide (f i = 1000000) || (decide (-200000 ≤ f i) && decide (f i ≤ 200000))) := by rw [List.all_map]; rfl
          rw [z1]
          obtain ⟨b1, hb1⟩ : ∃ b, b = (List.range (n * n)).all (fun i => decide (f i = 1000000) || (decide (-200000 ≤ f i) && decide (f i ≤ 200000))) := ⟨_, rfl⟩
          have zi : zoneI n f = (b1 && ((List.range n).all (fun r => decide (f (r * n + r) = 1)) && ((List.range n).all (fun c => decide (f c ≤ 1)) &&
            ((List.range n).all (fun i => decide (1 ≤ fwF n n f (i * n + i))) && (List.range (n * n)).all fun i => decide (fwF n n f i = f i))))) := by
            rw [hb1]
            unfold zoneI
            rw [not_gt, Bool.and_left_comm ((List.range n).all (fun c => decide (f c ≤ 1)))]
          rw [← hb1]
          rw [zi] at q2
          cases b1 with
          | false => exact q2 _ s2
          | true =>
            refine ite2 (fun e => absurd e (by decide)) fun _ => ?_
            rw [Bool.true_and] at q2
            have bd : BdN (n * n) 25 f := fun i hi => by
              have := List.all_eq_true.mp hb1.symm i (List.mem_range.mpr hi)
              simp at this
              omega
            clear z1 zi hb1
            refine ⟨_, rfl, a, tab n f, n, rfl, s2 _ _ h2, tab_len n f, n2, n4, fun H3 s3 => ?_⟩
            have s23 := s2.trans s3
            have h4 := s23 _ _ h2
            refine ⟨_, rfl, _, rfl, by omega, by omega, fun D4 hD4 => lcV_range (fun r => V.bl (decide (f (r * n + r) = 1))) hD4 (by rw [Int.toNat_natCast, sizeLine_eq]; omega) (fun r hr' H4 Q4 s4 k4 => ?_) (fun H4 s4 h7 => ?_)⟩
            · rw [Int.toNat_natCast] at hr'
              refine ⟨_, rfl, _, rfl, _, rfl, _, _, rfl, rfl, mulI hr' n4, _, rfl, _, _, rfl, rfl, a, _, _, _, rfl, rfl, SqT.of (s4 _ _ h4), tab_at (ix_lt hr' hr') ixI0, rfl, ?_⟩
              rw [dv]
              exact k4 _ (Same.refl _)
            · rw [Int.toNat_natCast] at h7
              refine ⟨D4, (List.range n).map (fun r => decide (f (r * n + r) = 1)), rfl, SqL.of (by rw [h7, List.map_map]; rfl), _, rfl, ?_⟩
              have z1 : ((List.range n).map (fun r => decide (f (r * n + r) = 1))).all id = (List.range n).all (fun r => decide (f (r * n + r) = 1)) := by rw [List.all_map]; rfl
              rw [z1]
              obtain ⟨b3, hb3⟩ : ∃ b, b = (List.range n).all (fun r => decide (f (r * n + r) = 1)) := ⟨_, rfl⟩
              rw [← hb3] at q2 ⊢
              have s14 := s23.trans s4
              cases b3 with
              | false => exact q2 _ s14
              | true =>
                refine ite2 (fun e => absurd e (by decide)) fun _ => ?_
                rw [Bool.true_and] at q2
                have h8 := s4 _ _ h4
                clear z1 hb3
                have nw : ¬ (HT.sIx (tab n f).length 0 none = 0 ∧ HT.sIx (tab n f).length (tab n f).length (some (n : Int)) = (tab n f).length) := by
                  rw [tab_len, HT.sIx_nat]
                  have : 2 * n ≤ n * n := Nat.mul_le_mul_right n n2
                  omega
                refine ⟨_, rfl, _, rfl, _, rfl, a, _, rfl, SqT.of h8, nw, fun t5 ht5 => ?_⟩
                rw [cut_tab]
                have s5 := same_upd (o := .tup ((List.range n).map fun i => V.int (f i))) ht5
                refine ⟨t5, rfl, ⟨_, SqT.of upd_same⟩, fun D6 hD6 => lcW_tup (ys := List.range n) (fun i => V.int (f i)) (fun i => V.bl (decide (f i ≤ 1))) hD6 upd_same (by rw [List.length_range, sizeLine_eq]; omega) (fun i hi H6 Q6 s6 k6 => ?_) (fun H6 s6 h9 => ?_)⟩
                · exact ⟨_, rfl, _, _, rfl, rfl, k6 _ (Same.refl _)⟩
                · refine ⟨D6, (List.range n).map (fun i => decide (f i ≤ 1)), rfl, SqL.of (by rw [h9, List.map_map]; rfl), _, rfl, ?_⟩
                  have z1 : ((List.range n).map (fun i => decide (f i ≤ 1))).all id = (List.range n).all (fun i => decide (f i ≤ 1)) := by rw [List.all_map]; rfl
                  rw [z1]
                  obtain ⟨b4, hb4⟩ : ∃ b, b = (List.range n).all (fun i => decide (f i ≤ 1)) := ⟨_, rfl⟩
                  rw [← hb4] at q2 ⊢
                  have s16 := (s14.trans s5).trans s6
                  cases b4 with
                  | false => exact q2 _ s16
                  | true =>
                    refine ite2 (fun _ => ?_) fun e => absurd rfl e
                    rw [Bool.true_and] at q2
                    have h10 := s6 _ _ (s5 _ _ h8)
                    refine ⟨_, rfl, _, rfl, a, n, f, rfl, .inr h10, n4, bd, fun z H7 s7 => ?_, fun z p H7 s7 np e7 => ?_⟩
                    · have := q2 _ (s16.trans s7)
                      have zf : (List.range n).all (fun i => decide (1 ≤ fwF n n f (i * n + i))) = false := by
                        obtain ⟨i, hi, lt⟩ := z
                        rw [List.all_eq_false]
                        exact ⟨i, List.mem_range.mpr hi, by simp; omega⟩
                      rw [zf, Bool.false_and] at this
                      have h11 := s7 _ _ h10
                      refine ⟨_, rfl, .none, .tuple (dI (ilist n f)), .non, (td_tab h11).dp, rfl, shaped_ints _, this⟩
                    · have := q2 _ (s16.trans s7)
                      have zf : (List.range n).all (fun i => decide (1 ≤ fwF n n f (i * n + i))) = true := List.all_eq_true.mpr fun i hi => decide_eq_true (z i (List.mem_range.mp hi))
                      rw [zf, Bool.true_and] at this
                      have h11 := s7 _ _ h10
                      refine ⟨_, rfl, .tuple (dI (ilist n (fwF n n f))), .tuple (dI (ilist n f)), (td_tab e7).dp, (td_tab h11).dp, shaped_ints _, shaped_ints _, ?_⟩
                      rw [PyData.eqv, eqv_ints, ints_eq]
                      exact this
end
end My

/-! max(a, b), min(a, b) of two pairs of whole numbers: not of one law. -/
namespace My
open PySem PySem.Spec PyProof.Rows L2 PySem.W
section
variable {prog : Program} {w : World} {A : Around} {E : Value → Shared → Prop} {s : Shared}
theorem max_twoH {a b : Value} {Q : Value → Shared → Prop}
    (h : wpAny (model prog w) A.in1 (pyIter (.ref s.heap.objs.size)) (fun it s₂ => ∃ I fp wr G n P St H bt, it = .ref I ∧ WalksS prog w A.in1 I fp wr G n P St ∧ St 0 s₂ ∧ (∀ b ∈ fp, b < s₂.heap.objs.size) ∧ 0 < n ∧
      (∀ b o, H.get? b = some o → b ∉ wr) ∧ (∀ b o, H.get? b = some o → s₂.heap.get? b = some o) ∧ CmpIn prog w A.in1 .Gt H P bt ∧ ∀ v s', P (argBest bt (n - 1)) v → Moved wr G s₂ s' → Q v s') E
      { s with heap := s.heap.push { cls := .type "tuple", data := .seq #[a, b] } }) :
    wpAny (model prog w) A (call (.builtin "max") [a, b]) Q E s := by
  have hname : (toString "max" ++ toString ".loop" : String) = "max.loop" := by decide
  refine call_function_tree F.kind_max F.plain_max F.entry_max (F.args_max2 _ _) ?_
  show wpAny _ A.in1 (Builtin.Builtins.bindParams "max" ["key", "default"] 0 ⟨[], []⟩ >>= _) _ _ s
  refine wpAny_bind (wpAny_of_eq (show Builtin.Builtins.bindParams "max" ["key", "default"] 0 ⟨[], []⟩ = pure [none, none] from rfl) ?_)
  show wpAny _ A.in1 (newTuple [a, b] >>= _) _ _ s
  refine wpAny_bind (wpAny_newObj_type ?_)
  refine wpAny_bind (wpAny_mono h (fun it s₂ h₂ => ?_) fun _ _ e => e)
  obtain ⟨I, fp, wr, G, n, P, St, H, bt, rfl, W, hst, hfp, hn, hw, hkeep, hcmp, hQ⟩ := h₂
  refine wpAny_bind (wpAny_newObj_type ?_)
  have hSf : s₂.heap.objs.size ∉ fp := fun hm => Nat.lt_irrefl _ (hfp _ hm)
  rw [hname]
  refine wpAny_pure ⟨plainId_quiet F.plain_max_loop _, codeAny_max_loop_firstH W H hw bt hcmp s₂.heap.objs.size hSf (fresh_in hkeep) _ hn (fun b o e => Heap.get?_push_of_some _ (hkeep b o e)) (W.frame 0 s₂ _ s₂.toks hst (Nat.le_refl _) fun b _ o e => Heap.get?_push_of_some _ e) (Heap.get?_push_size _ rfl) fun v s' hP hm => ?_⟩
  exact hQ v s' hP (Moved.drop_new (tk := s₂.toks) hm (Nat.le_refl _))
theorem min_twoH {a b : Value} {Q : Value → Shared → Prop}
    (h : wpAny (model prog w) A.in1 (pyIter (.ref s.heap.objs.size)) (fun it s₂ => ∃ I fp wr G n P St H bt, it = .ref I ∧ WalksS prog w A.in1 I fp wr G n P St ∧ St 0 s₂ ∧ (∀ b ∈ fp, b < s₂.heap.objs.size) ∧ 0 < n ∧
      (∀ b o, H.get? b = some o → b ∉ wr) ∧ (∀ b o, H.get? b = some o → s₂.heap.get? b = some o) ∧ CmpIn prog w A.in1 .Lt H P bt ∧ ∀ v s', P (argBest bt (n - 1)) v → Moved wr G s₂ s' → Q v s') E
      { s with heap := s.heap.push { cls := .type "tuple", data := .seq #[a, b] } }) :
    wpAny (model prog w) A (call (.builtin "min") [a, b]) Q E s := by
  have hname : (toString "min" ++ toString ".loop" : String) = "min.loop" := by decide
  refine call_function_tree F.kind_min F.plain_min F.entry_min (F.args_min2 _ _) ?_
  show wpAny _ A.in1 (Builtin.Builtins.bindParams "min" ["key", "default"] 0 ⟨[], []⟩ >>= _) _ _ s
  refine wpAny_bind (wpAny_of_eq (show Builtin.Builtins.bindParams "min" ["key", "default"] 0 ⟨[], []⟩ = pure [none, none] from rfl) ?_)
  show wpAny _ A.in1 (newTuple [a, b] >>= _) _ _ s
  refine wpAny_bind (wpAny_newObj_type ?_)
  refine wpAny_bind (wpAny_mono h (fun it s₂ h₂ => ?_) fun _ _ e => e)
  obtain ⟨I, fp, wr, G, n, P, St, H, bt, rfl, W, hst, hfp, hn, hw, hkeep, hcmp, hQ⟩ := h₂
  refine wpAny_bind (wpAny_newObj_type ?_)
  have hSf : s₂.heap.objs.size ∉ fp := fun hm => Nat.lt_irrefl _ (hfp _ hm)
  rw [hname]
  refine wpAny_pure ⟨plainId_quiet F.plain_min_loop _, codeAny_min_loop_firstH W H hw bt hcmp s₂.heap.objs.size hSf (fresh_in hkeep) _ hn (fun b o e => Heap.get?_push_of_some _ (hkeep b o e)) (W.frame 0 s₂ _ s₂.toks hst (Nat.le_refl _) fun b _ o e => Heap.get?_push_of_some _ e) (Heap.get?_push_size _ rfl) fun v s' hP hm => ?_⟩
  exact hQ v s' hP (Moved.drop_new (tk := s₂.toks) hm (Nat.le_refl _))
theorem alike_ii (p q p' q' : Int) : AlikeAll [.tuple [.int p, .int q], .tuple [.int p', .int q']] := by
  refine ⟨fun x hx y hy => ?_, fun x hx => ?_⟩
  · simp only [List.mem_cons, List.not_mem_nil, or_false] at hx hy
    rcases hx with rfl | rfl <;> rcases hy with rfl | rfl <;> rfl
  · simp only [List.mem_cons, List.not_mem_nil, or_false] at hx
    rcases hx with rfl | rfl <;> exact fun e => by cases e
theorem max_pairs {a b : Value} {p q p' q' : Int} {as bs : List Addr} {Q : Value → Shared → Prop} (hh : A.handled = none) (ra : Reads s.heap a (.tuple [.int p, .int q]) as) (rb : Reads s.heap b (.tuple [.int p', .int q']) bs) (hu : A.units + 64 < cLine)
    (h : ∀ h' tk, (∀ b o, s.heap.get? b = some o → h'.get? b = some o) → Q (if p < p' ∨ (p = p' ∧ q < q') then b else a) { s with heap := h', toks := tk }) :
    wpAny (model prog w) A (call (.builtin "max") [a, b]) Q E s := by
  have hT : (s.heap.push { cls := .type "tuple", data := .seq #[a, b] }).IsTuple s.heap.objs.size #[a, b] := ⟨_, Heap.get?_push_size _ rfl, rfl, 0, rfl⟩
  have kp : ∀ c o, s.heap.get? c = some o → (s.heap.push { cls := .type "tuple", data := .seq #[a, b] }).get? c = some o := fun c o e => Heap.get?_push_of_some _ e
  have hr : ReadsAll ({ s with heap := s.heap.push { cls := .type "tuple", data := .seq #[a, b] } } : Shared).heap (#[a, b] : Array Value).toList [.tuple [.int p, .int q], .tuple [.int p', .int q']] (as ++ (bs ++ [])) :=
    .cons (reads_keeps kp ra) (.cons (reads_keeps kp rb) .nil)
  refine max_twoH (iter_tupleW (A := A.in1) (s := { s with heap := s.heap.push { cls := .type "tuple", data := .seq #[a, b] } }) hh hT fun s₂ e W st hfp hw hk => ?_)
  refine ⟨_, _, _, _, _, _, _, _, _, rfl, W, st, hfp, by show 0 < 2; decide, hw, hk, cmpIn_gt (A := A.in1) hr (alike_ii p q p' q') (by show A.units + 1 + 1 < _; omega), fun v s' hP m => ?_⟩
  obtain ⟨h', tk, rfl, hk'⟩ := moved_old e rfl m
  have := h h' tk fun c o e => hk' c o (kp c o e)
  have e2 : argBest (fun i j => dataLt (([.tuple [.int p, .int q], .tuple [.int p', .int q']] : List PyData).getD j .none) (([.tuple [.int p, .int q], .tuple [.int p', .int q']] : List PyData).getD i .none)) 1 = if p < p' ∨ (p = p' ∧ q < q') then 1 else 0 := by
    show (if dataLt (.tuple [.int p, .int q]) (.tuple [.int p', .int q']) = true then 1 else 0) = _
    rw [dataLt_ii]
    by_cases c : p < p' ∨ (p = p' ∧ q < q')
    · rw [if_pos c, if_pos (decide_eq_true c)]
    · rw [if_neg c, if_neg (by rw [decide_eq_false c]; decide)]
  have hP2 : (#[a, b] : Array Value)[if p < p' ∨ (p = p' ∧ q < q') then 1 else 0]? = some v := by rw [← e2]; exact hP
  by_cases c : p < p' ∨ (p = p' ∧ q < q')
  · rw [if_pos c] at hP2 this
    cases (show some b = some v from hP2)
    exact this
  · rw [if_neg c] at hP2 this
    cases (show some a = some v from hP2)
    exact this
theorem min_pairs {a b : Value} {p q p' q' : Int} {as bs : List Addr} {Q : Value → Shared → Prop} (hh : A.handled = none) (ra : Reads s.heap a (.tuple [.int p, .int q]) as) (rb : Reads s.heap b (.tuple [.int p', .int q']) bs) (hu : A.units + 64 < cLine)
    (h : ∀ h' tk, (∀ b o, s.heap.get? b = some o → h'.get? b = some o) → Q (if p' < p ∨ (p' = p ∧ q' < q) then b else a) { s with heap := h', toks := tk }) :
    wpAny (model prog w) A (call (.builtin "min") [a, b]) Q E s := by
  have hT : (s.heap.push { cls := .type "tuple", data := .seq #[a, b] }).IsTuple s.heap.objs.size #[a, b] := ⟨_, Heap.get?_push_size _ rfl, rfl, 0, rfl⟩
  have kp : ∀ c o, s.heap.get? c = some o → (s.heap.push { cls := .type "tuple", data := .seq #[a, b] }).get? c = some o := fun c o e => Heap.get?_push_of_some _ e
  have hr : ReadsAll ({ s with heap := s.heap.push { cls := .type "tuple", data := .seq #[a, b] } } : Shared).heap (#[a, b] : Array Value).toList [.tuple [.int p, .int q], .tuple [.int p', .int q']] (as ++ (bs ++ [])) :=
    .cons (reads_keeps kp ra) (.cons (reads_keeps kp rb) .nil)
  refine min_twoH (iter_tupleW (A := A.in1) (s := { s with heap := s.heap.push { cls := .type "tuple", data := .seq #[a, b] } }) hh hT fun s₂ e W st hfp hw hk => ?_)
  refine ⟨_, _, _, _, _, _, _, _, _, rfl, W, st, hfp, by show 0 < 2; decide, hw, hk, cmpIn_lt (A := A.in1) hr (alike_ii p q p' q') (by show A.units + 1 + 1 < _; omega), fun v s' hP m => ?_⟩
  obtain ⟨h', tk, rfl, hk'⟩ := moved_old e rfl m
  have := h h' tk fun c o e => hk' c o (kp c o e)
  have e2 : argBest (fun i j => dataLt (([.tuple [.int p, .int q], .tuple [.int p', .int q']] : List PyData).getD i .none) (([.tuple [.int p, .int q], .tuple [.int p', .int q']] : List PyData).getD j .none)) 1 = if p' < p ∨ (p' = p ∧ q' < q) then 1 else 0 := by
    show (if dataLt (.tuple [.int p', .int q']) (.tuple [.int p, .int q]) = true then 1 else 0) = _
    rw [dataLt_ii]
    by_cases c : p' < p ∨ (p' = p ∧ q' < q)
    · rw [if_pos c, if_pos (decide_eq_true c)]
    · rw [if_neg c, if_neg (by rw [decide_eq_false c]; decide)]
  have hP2 : (#[a, b] : Array Value)[if p' < p ∨ (p' = p ∧ q' < q) then 1 else 0]? = some v := by rw [← e2]; exact hP
  by_cases c : p' < p ∨ (p' = p ∧ q' < q)
  · rw [if_pos c] at hP2 this
    cases (show some b = some v from hP2)
    exact this
  · rw [if_neg c] at hP2 this
    cases (show some a = some v from hP2)
    exact this
end
section
variable {X : Cx}
def rMax2T : List V → Hp → VK → Prop := fun vs H Q => ∃ (a b : Addr) (p q p' q' : Int), vs = [V.ref a, V.ref b] ∧ H a = some (.tup [.int p, .int q]) ∧ H b = some (.tup [.int p', .int q']) ∧ Q (.ref (if p < p' ∨ (p = p' ∧ q < q') then b else a)) H
def rMin2T : List V → Hp → VK → Prop := fun vs H Q => ∃ (a b : Addr) (p q p' q' : Int), vs = [V.ref a, V.ref b] ∧ H a = some (.tup [.int p, .int q]) ∧ H b = some (.tup [.int p', .int q']) ∧ Q (.ref (if p' < p ∨ (p' = p ∧ q' < q) then b else a)) H
theorem call_max2T (hc : X.calm = true) (hu : X.A.units + 64 < cLine) : CallR X (.builtin "max") rMax2T := by
  intro pins s σ H xs us Q I r h
  obtain ⟨a, b, p, q, p', q', rfl, ha, hb, k⟩ := h
  obtain ⟨u, v, rfl, r1, r2⟩ := vals2 r
  cases (show u = Value.ref a from r1)
  cases (show v = Value.ref b from r2)
  obtain ⟨as, ra⟩ := Dp.reads I (.tuple [.int p, .int q]) _ (Value.ref a) (TD.tup ha (.cons (.int p) (.cons (.int q) .nil))).dp rfl
  obtain ⟨bs, rb⟩ := Dp.reads I (.tuple [.int p', .int q']) _ (Value.ref b) (TD.tup hb (.cons (.int p') (.cons (.int q') .nil))).dp rfl
  refine max_pairs (I.ok.hd hc) ra rb hu fun h' tk kk => ⟨_, H, I.kept kk, ?_, k⟩
  by_cases c : p < p' ∨ (p = p' ∧ q < q')
  · rw [if_pos c, if_pos c]; rfl
  · rw [if_neg c, if_neg c]; rfl
theorem call_min2T (hc : X.calm = true) (hu : X.A.units + 64 < cLine) : CallR X (.builtin "min") rMin2T := by
  intro pins s σ H xs us Q I r h
  obtain ⟨a, b, p, q, p', q', rfl, ha, hb, k⟩ := h
  obtain ⟨u, v, rfl, r1, r2⟩ := vals2 r
  cases (show u = Value.ref a from r1)
  cases (show v = Value.ref b from r2)
  obtain ⟨as, ra⟩ := Dp.reads I (.tuple [.int p, .int q]) _ (Value.ref a) (TD.tup ha (.cons (.int p) (.cons (.int q) .nil))).dp rfl
  obtain ⟨bs, rb⟩ := Dp.reads I (.tuple [.int p', .int q']) _ (Value.ref b) (TD.tup hb (.cons (.int p') (.cons (.int q') .nil))).dp rfl
  refine min_pairs (I.ok.hd hc) ra rb hu fun h' tk kk => ⟨_, H, I.kept kk, ?_, k⟩
  by_cases c : p' < p ∨ (p' = p ∧ q' < q)
  · rw [if_pos c, if_pos c]; rfl
  · rw [if_neg c, if_neg c]; rfl
end
end My

namespace My
open PySem PySem.Spec PyProof.Rows L2
/-! ### the least and the greatest time -/
def Cq (l h : Int × Int) : Prop := l.1 < h.1 ∨ (l.1 = h.1 ∧ l.2 = 0 ∧ h.2 = 1)
def cqB (l h : Int × Int) : Bool := decide (l.1 < h.1) || (decide (l.1 = h.1) && (decide (l.2 = 0) && decide (h.2 = 1)))
theorem cqB_iff {l h : Int × Int} : cqB l h = true ↔ Cq l h := by
  unfold cqB Cq
  simp
def lowQ (n : Nat) (f x : Nat → Int) (r : Nat) : Int × Int := (x r - 6 * (f (r * n) / 2), 1 - f (r * n) % 2)
def highQ (f x : Nat → Int) (r : Nat) : Int × Int := (x r + 6 * (f r / 2), f r % 2)
def LowAt (n : Nat) (f x : Nat → Int) (i : Nat) (l : Int × Int) : Prop := 0 ≤ l.2 ∧ ∀ h, Cq l h ↔ (Cq (0, 0) h ∧ ∀ r, 1 ≤ r → r ≤ i → f (r * n) ≠ 1000000 → Cq (lowQ n f x r) h)
def HighAt (f x : Nat → Int) (i : Nat) (h : Int × Int) : Prop := h.2 ≤ 1 ∧ ∀ l, Cq l h ↔ ∀ r, 1 ≤ r → r ≤ i → Cq l (highQ f x r)
theorem low_zero (n : Nat) (f x : Nat → Int) : LowAt n f x 0 (0, 0) := ⟨by decide, fun h => ⟨fun c => ⟨c, fun r a b => absurd a (by omega)⟩, fun c => c.1⟩⟩
theorem low_skip {n i : Nat} {f x : Nat → Int} {l : Int × Int} (h : LowAt n f x i l) (e : f ((i + 1) * n) = 1000000) : LowAt n f x (i + 1) l := by
  refine ⟨h.1, fun y => (h.2 y).trans (and_congr_right fun _ => ⟨fun a r r1 r2 ne => ?_, fun a r r1 r2 ne => a r r1 (by omega) ne⟩)⟩
  by_cases z : r = i + 1
  · rw [z] at ne; exact absurd e ne
  · exact a r r1 (by omega) ne
theorem max_cq {l q h : Int × Int} (hl : 0 ≤ l.2) (hq : 0 ≤ q.2) : Cq (if l.1 < q.1 ∨ (l.1 = q.1 ∧ l.2 < q.2) then q else l) h ↔ (Cq l h ∧ Cq q h) := by
  obtain ⟨l1, l2⟩ := l
  obtain ⟨q1, q2⟩ := q
  obtain ⟨h1, h2⟩ := h
  unfold Cq at *
  dsimp only at *
  by_cases c : l1 < q1 ∨ (l1 = q1 ∧ l2 < q2)
  · rw [if_pos c]; dsimp only; omega
  · rw [if_neg c]; dsimp only; omega
theorem min_cq {l q h : Int × Int} (hh : h.2 ≤ 1) (hq : q.2 ≤ 1) : Cq l (if q.1 < h.1 ∨ (q.1 = h.1 ∧ q.2 < h.2) then q else h) ↔ (Cq l h ∧ Cq l q) := by
  obtain ⟨l1, l2⟩ := l
  obtain ⟨q1, q2⟩ := q
  obtain ⟨h1, h2⟩ := h
  unfold Cq at *
  dsimp only at *
  by_cases c : q1 < h1 ∨ (q1 = h1 ∧ q2 < h2)
  · rw [if_pos c]; dsimp only; omega
  · rw [if_neg c]; dsimp only; omega
theorem low_step {n i : Nat} {f x : Nat → Int} {l : Int × Int} (h : LowAt n f x i l) (e : f ((i + 1) * n) ≠ 1000000) :
    LowAt n f x (i + 1) (if l.1 < (lowQ n f x (i + 1)).1 ∨ (l.1 = (lowQ n f x (i + 1)).1 ∧ l.2 < (lowQ n f x (i + 1)).2) then lowQ n f x (i + 1) else l) := by
  have q0 : 0 ≤ (lowQ n f x (i + 1)).2 := by unfold lowQ; dsimp only; omega
  refine ⟨?_, fun y => ?_⟩
  · by_cases c : l.1 < (lowQ n f x (i + 1)).1 ∨ (l.1 = (lowQ n f x (i + 1)).1 ∧ l.2 < (lowQ n f x (i + 1)).2)
    · rw [if_pos c]; exact q0
    · rw [if_neg c]; exact h.1
  · rw [max_cq h.1 q0, h.2 y]
    constructor
    · rintro ⟨⟨a, b⟩, c⟩
      refine ⟨a, fun r r1 r2 ne => ?_⟩
      by_cases z : r = i + 1
      · rw [z]; exact c
      · exact b r r1 (by omega) ne
    · rintro ⟨a, b⟩
      exact ⟨⟨a, fun r r1 r2 ne => b r r1 (by omega) ne⟩, b (i + 1) (by omega) (Nat.le_refl _) e⟩
theorem high_one (f x : Nat → Int) : HighAt f x 1 (highQ f x 1) := by
  refine ⟨by unfold highQ; dsimp only; omega, fun l => ⟨fun a r r1 r2 => ?_, fun a => a 1 (Nat.le_refl _) (Nat.le_refl _)⟩⟩
  rw [show r = 1 by omega]; exact a
theorem high_step {i : Nat} {f x : Nat → Int} {h : Int × Int} (k : HighAt f x i h) :
    HighAt f x (i + 1) (if (highQ f x (i + 1)).1 < h.1 ∨ ((highQ f x (i + 1)).1 = h.1 ∧ (highQ f x (i + 1)).2 < h.2) then highQ f x (i + 1) else h) := by
  have q1 : (highQ f x (i + 1)).2 ≤ 1 := by unfold highQ; dsimp only; omega
  refine ⟨?_, fun y => ?_⟩
  · by_cases c : (highQ f x (i + 1)).1 < h.1 ∨ ((highQ f x (i + 1)).1 = h.1 ∧ (highQ f x (i + 1)).2 < h.2)
    · rw [if_pos c]; exact q1
    · rw [if_neg c]; exact k.1
  · rw [min_cq k.1 q1, k.2 y]
    constructor
    · rintro ⟨a, b⟩ r r1 r2
      by_cases z : r = i + 1
      · rw [z]; exact b
      · exact a r r1 (by omega)
    · intro a
      exact ⟨fun r r1 r2 => a r r1 (by omega), a (i + 1) (by omega) (Nat.le_refl _)⟩
/-- the law's word of a zone as time passes -/
theorem later_no {n : Nat} {f x : Nat → Int} {r c : Nat} (hn : 2 ≤ n) (r1 : 1 ≤ r) (rn : r < n) (c1 : 1 ≤ c) (cn : c < n) (h : satB (f (r * n + c)) (x r - x c) = false) : inB n (laterF n f) x = false := by
  refine Bool.eq_false_iff.mpr fun y => ?_
  have z := inB_iff.mp y r c rn cn
  rw [later_at hn cn, if_neg (by omega), h] at z
  cases z
theorem later_iff {n : Nat} {B : Int} {f x : Nat → Int} {l h : Int × Int} (z : Zn n B f) (x0 : x 0 = 0) (S : ∀ r c, 1 ≤ r → r < n → 1 ≤ c → c < n → satB (f (r * n + c)) (x r - x c) = true)
    (hl : LowAt n f x (n - 1) l) (hh : HighAt f x (n - 1) h) : inB n (laterF n f) x = cqB l h := by
  have two := z.two
  rw [Bool.eq_iff_iff, cqB_iff, inB_iff, hl.2, hh.2]
  have row : ∀ c, c < n → f c ≤ 1 := fun c hc => by have := (z.row c hc).2; rwa [Nat.zero_mul, Nat.zero_add] at this
  have zero : ∀ c, Cq (0, 0) (highQ f x c) ↔ (0 < x c + 6 * (f c / 2) ∨ (0 = x c + 6 * (f c / 2) ∧ f c % 2 = 1)) := fun c => by
    unfold Cq highQ; dsimp only; omega
  constructor
  · intro i
    refine ⟨fun c c1 c2 => ?_, fun r r1 r2 ne => (hh.2 _).mpr fun c c1 c2 => ?_⟩
    · have hc : c < n := by omega
      have a := i 0 c (by omega) hc
      rw [later_at two hc, if_neg (by omega), Nat.zero_mul, Nat.zero_add, x0, sat_iff] at a
      have := row c hc
      rw [zero]; omega
    · have hr : r < n := by omega
      have hc : c < n := by omega
      have t := z.tri 0 (by omega) r c hr hc
      have s := S r c r1 hr c1 hc
      have := row c hc
      rw [Nat.zero_mul, Nat.zero_add, Nat.add_zero] at t
      have nf : f c ≠ 1000000 := by omega
      have u := sumB_fin ne nf
      have lt : sumB (f (r * n)) (f c) ≤ 1000000 := by
        have := z.le hr (show 0 < n by omega)
        rw [Nat.add_zero] at this
        omega
      have s2 := sat_mono t lt s
      rw [sat_iff] at s2
      have tp := z.top r 0 hr (by omega)
      have lm := z.lim
      rw [Nat.add_zero] at tp
      unfold Cq lowQ highQ
      dsimp only
      omega
  · rintro ⟨a, b⟩ r c hr hc
    rw [later_at two hc]
    by_cases e : c = 0 ∧ 0 < r
    · rw [if_pos e]; exact sat_far _
    · rw [if_neg e]
      by_cases r0 : r = 0
      · subst r0
        rw [Nat.zero_mul, Nat.zero_add, x0]
        by_cases c0 : c = 0
        · subst c0
          have d := z.diag 0 hr
          rw [Nat.zero_mul, Nat.zero_add] at d
          rw [d, x0]; decide
        · have := (zero c).mp (a c (by omega) (by omega))
          rw [sat_iff]; omega
      · exact S r c (by omega) hr (by omega) hc
theorem xI_at {n : Nat} {zs : List Int} (lz : zs.length = n - 1) {i : Nat} (h1 : 1 ≤ i) (h2 : i < n) {z : Int} (e : z = (i : Int) - 1) : atI (zs.map V.int) z = some (.int (xI zs i)) := by
  subst e
  obtain ⟨k, rfl⟩ : ∃ k, i = k + 1 := ⟨i - 1, by omega⟩
  rw [show (((k + 1 : Nat) : Int) - 1) = (k : Int) by omega]
  refine atI_nat ?_
  have lr : k < zs.length := by omega
  rw [List.getElem?_map, List.getElem?_eq_getElem lr]
  show some (V.int _) = some (V.int (xI zs (k + 1)))
  unfold xI
  rw [List.getD_eq_getElem?_getD, List.getElem?_cons_succ, List.getElem?_eq_getElem lr]; rfl
section
variable {P : Program} {w : World} {K : PySem.W.Frag} {mg : Str → Option Value} {base : Heap} {A : Nat → Addr} {D : Nat → FuncData}
theorem ok_islater (T : Txt K mg A D) : FnG P w K mg base CX0 3 (A 41) (D 41) ["zone", "values"] spIsLater := by
  have G__law_side := ok_lside (P := P) (w := w) (base := base) T
  have G__law_less := ok_less (P := P) (w := w) (base := base) T
  refine def_ok0 T.F__law_is_later sc__law_is_later (fun vs H Q E h => ?_) (fun cdv Ar outer s H vs Q E hr hG h => ?_)
  · obtain ⟨v, g, n, B, f, zs, rfl, _⟩ := h; rfl
  · obtain ⟨v, g, n, B, f, zs, rfl, ⟨a, rfl, ha, zn⟩, hg, lz, q⟩ := h
    refine ⟨_, (pss_cons (ps_par3 (i := 2) (j := 3) (l := 4) (by rfl) sc__law_is_later.nd rfl rfl rfl (by decide) (by decide) (by decide) rfl rfl rfl (pa_cons (pe_cg G__law_side (hr.mono (by first | decide | omega)) hG (by rfl) T.g__law_side T.F__law_side.kp T.b__law_side pass0 (pa_cons (pv 0) pa_nil)) (pa_cons (pe_tup (pa_cons pe_int (pa_cons pe_int pa_nil))) (pa_cons pe_non pa_nil))) (by rfl))
      (pss_cons (ps_for (by first | exact PassesOwn.never | exact PassesOwn.leaving | exact L2.passes_of rfl) rfl (pi_range2 rfl T.n_range (pa_cons pe_int (pa_cons (pv 2) pa_nil))) (pg_name (i := 5) sc__law_is_later.nd rfl (Or.inl rfl)) (pss_cons (ps_for (by first | exact PassesOwn.never | exact PassesOwn.leaving | exact L2.passes_of rfl) rfl (pi_range2 rfl T.n_range (pa_cons pe_int (pa_cons (pv 2) pa_nil))) (pg_name (i := 6) sc__law_is_later.nd rfl (Or.inl rfl)) (pss_one (ps_if (pt_not (pt_val (pe_cg G__law_less (hr.mono (by first | decide | omega)) hG (by rfl) T.g__law_less T.F__law_less.kp T.b__law_less pass0 (pa_cons (pv 0) (pa_cons (pv 5) (pa_cons (pv 6) (pa_cons (pe_op op_sub (pe_ix ix_list (pv 1) (pe_op op_sub (pv 5) pe_int) (fun _ _ => rfl)) (pe_ix ix_list (pv 1) (pe_op op_sub (pv 6) pe_int) (fun _ _ => rfl))) pa_nil))))))) (pss_one (ps_ret pe_bl)) pss_nil)))
      (pss_cons (ps_par (i := 7) (j := 8) (by rfl) sc__law_is_later.nd rfl rfl (by decide) rfl rfl (pa_cons (pe_ix ix_tup (pv 0) (pe_op op_mulW (pv 5) (pv 2)) (fun _ _ => rfl)) (pa_cons (pe_ix ix_tup (pv 0) (pv 5) (fun _ _ => rfl)) pa_nil)) (by rfl))
      (pss_cons (ps_if (pt_cmpR op_ne (pv 7) pe_int (nomark _)) (pss_one (ps_set (i := 3) sc__law_is_later.nd rfl (Or.inl rfl) (pe_callB (call_max2T rfl hr.units) (by rfl) T.n_max (by decide +kernel) (pa_cons (pv 3) (pa_cons (pe_tup (pa_cons (pe_op op_sub (pe_ix ix_list (pv 1) (pe_op op_sub (pv 5) pe_int) (fun _ _ => rfl)) (pe_op op_mulW pe_int (pe_op op_fdivW (pv 7) pe_int))) (pa_cons (pe_op op_sub pe_int (pe_op op_modN (pv 7) pe_int)) pa_nil))) pa_nil))))) pss_nil)
      (pss_cons (ps_set (i := 9) sc__law_is_later.nd rfl (Or.inl rfl) (pe_tup (pa_cons (pe_op op_add (pe_ix ix_list (pv 1) (pe_op op_sub (pv 5) pe_int) (fun _ _ => rfl)) (pe_op op_mulW pe_int (pe_op op_fdivW (pv 8) pe_int))) (pa_cons (pe_op op_modN (pv 8) pe_int) pa_nil))))
      (pss_one (ps_set (i := 4) sc__law_is_later.nd rfl (Or.inl rfl) (pe_ifExp (pt_cmpR op_isN (pv 4) pe_non (nomark _)) (pv 9) (pe_callB (call_min2T rfl hr.units) (by rfl) T.n_min (by decide +kernel) (pa_cons (pv 4) (pa_cons (pv 9) pa_nil)))))))))))
      (pss_one (ps_ret (pe_or (pe_cmpR op_lt (pe_ix ix_tup (pv 3) pe_int (fun _ _ => rfl)) (pe_ix ix_tup (pv 4) pe_int (fun _ _ => rfl)) (nomark _)) (pe_one (pe_and (pe_cmpR op_eq (pe_ix ix_tup (pv 3) pe_int (fun _ _ => rfl)) (pe_ix ix_tup (pv 4) pe_int (fun _ _ => rfl)) (nomark _)) (pe_and (pe_cmpR op_eq (pe_ix ix_tup (pv 3) pe_int (fun _ _ => rfl)) pe_int (nomark _)) (pe_one (pe_cmpR op_eq (pe_ix ix_tup (pv 4) pe_int (fun _ _ => rfl)) pe_int (nomark _))))))))))), ?_⟩
    have n2 := zn.two
    have n4 := zn.four
    have bd := zn.bd
    refine ⟨_, rfl, a, tab n f, n, rfl, ha, tab_len n f, n2, n4, fun H1 s1 => ⟨(by show 2 ≤ sizeLine; decide), fun l0 hl0 => ?_⟩⟩
    have s2 := s1.trans (same_upd (o := .tup [.int 0, .int 0]) hl0)
    refine ⟨_, _, _, rfl, ?_⟩
    refine ⟨_, rfl, _, _, rfl, ⟨by omega, by omega, by omega, by omega⟩, for_range (fun i σ H' => ∃ p l hv u5 u6 u7 u8 u9, σ = [some (.ref a), some (.ref g), some (.int n), some (.ref p), some hv, u5, u6, u7, u8, u9] ∧ Same H H' ∧
      H' p = some (.tup [.int l.1, .int l.2]) ∧ LowAt n f (xI zs) i l ∧ (i = 0 → hv = .non) ∧ (1 ≤ i → ∃ b h, hv = .ref b ∧ H' b = some (.tup [.int h.1, .int h.2]) ∧ HighAt f (xI zs) i h) ∧
      (∀ r c, 1 ≤ r → r ≤ i → 1 ≤ c → c < n → satB (f (r * n + c)) (xI zs r - xI zs c) = true)) ⟨l0, (0, 0), .non, none, none, none, none, none, rfl, s2, upd_same, low_zero _ _ _, fun _ => rfl, fun h => absurd h (by decide), fun r c h1 h2 => absurd h1 (by omega)⟩ ?_ ?_⟩
    · rintro i σ H3 hi ⟨p, l, hv, u5, u6, u7, u8, u9, rfl, s3, hp, hl, hn0, hn1, S⟩
      have i1n : i + 1 < n := by omega
      have ix1 : (1 + (i : Int)) = ((i + 1 : Nat) : Int) := by omega
      have ixv : (1 + (i : Int)) - 1 = ((i + 1 : Nat) : Int) - 1 := by omega
      have ixm : (1 + (i : Int)) * (n : Int) = (((i + 1) * n : Nat) : Int) := by rw [ix1, ← Int.natCast_mul]
      refine ⟨_, rfl, _, _, rfl, ⟨by omega, by omega, by omega, by omega⟩, for_range (fun j σ H' => ∃ u6, σ = [some (.ref a), some (.ref g), some (.int n), some (.ref p), some hv, some (.int (1 + (i : Int))), u6, u7, u8, u9] ∧ Same H3 H' ∧
        (∀ c, 1 ≤ c → c ≤ j → satB (f ((i + 1) * n + c)) (xI zs (i + 1) - xI zs c) = true)) ⟨_, rfl, Same.refl _, fun c h1 h2 => absurd h1 (by omega)⟩ ?_ ?_⟩
      · rintro j σ H4 hj ⟨u6, rfl, s4, S2⟩
        have j1n : j + 1 < n := by omega
        have s34 := s3.trans s4
        have hg4 := SqL.of (K := K) (s34 _ _ hg)
        refine ⟨_, rfl, _, rfl, _, rfl, _, rfl, _, rfl, _, _, rfl, rfl, g, _, _, _, rfl, rfl, hg4, xI_at lz (by omega) i1n ixv, _, rfl, _, rfl, _, _, rfl, rfl, g, _, _, _, rfl, rfl, hg4, xI_at lz (i := j + 1) (by omega) j1n (by omega), _, _, rfl, rfl, ?_⟩
        refine ⟨a, n, f, i + 1, j + 1, xI zs (i + 1) - xI zs (j + 1), by rw [← ix1, show ((j + 1 : Nat) : Int) = 1 + (j : Int) by omega]; rfl, s34 _ _ ha, n2, n4, bd, i1n, j1n, fun H5 s5 => ⟨_, rfl, ?_⟩⟩
        cases hb : satB (f ((i + 1) * n + (j + 1))) (xI zs (i + 1) - xI zs (j + 1)) with
        | false =>
          refine ite2 (fun _ => ?_) (fun e => absurd rfl e)
          have := q _ (s34.trans s5)
          rw [later_no n2 (by omega) i1n (by omega) j1n hb] at this
          exact this
        | true =>
          refine ite2 (fun e => absurd e (by decide)) (fun _ => ?_)
          refine ⟨_, rfl, s4.trans s5, fun c c1 c2 => ?_⟩
          by_cases y : c = j + 1
          · rw [y]; exact hb
          · exact S2 c c1 (by omega)
      · rintro σ H4 ⟨u6, rfl, s4, S2⟩
        have s34 := s3.trans s4
        have ha4 := s34 _ _ ha
        have bt := bd _ (ix_lt i1n (show 0 < n by omega))
        have bb := bd _ (ix_lt (show 0 < n by omega) i1n)
        rw [Nat.add_zero] at bt
        rw [Nat.zero_mul, Nat.zero_add] at bb
        have ht2 : (f ((i + 1) * n) / 2).natAbs < 2 ^ 25 := by omega
        have hb2 : (f (i + 1) / 2).natAbs < 2 ^ 25 := by omega
        have m1 : CMulW (1 + (i : Int)) (n : Int) := wide_mul (a := 20) (b := 20) (by omega) (by omega) (by decide) (by decide) (by decide)
        refine ⟨_, rfl, _, rfl, _, rfl, _, _, rfl, rfl, m1, a, _, _, _, rfl, rfl, SqT.of ha4, tab_at (i := (i + 1) * n) (by have := ix_lt i1n (show 0 < n by omega); rwa [Nat.add_zero] at this) ixm, _, rfl, _, rfl, a, _, _, _, rfl, rfl, SqT.of ha4, tab_at (i := i + 1) (by have := ix_lt (show 0 < n by omega) i1n; rwa [Nat.zero_mul, Nat.zero_add] at this) ix1, _, _, rfl, ?_⟩
        have hp4 := s4 _ _ hp
        refine ⟨_, rfl, rfl, _, rfl, ite2 (fun e3 => ?_) (fun e3 => ?_)⟩
        · have ne : f ((i + 1) * n) ≠ 1000000 := fun y => by
            have : (!decide (V.int (f ((i + 1) * n)) = V.int 1000000)) = true := e3
            rw [y] at this; exact absurd this (by decide)
          refine ⟨_, rfl, _, rfl, _, rfl, _, _, rfl, rfl, g, _, _, _, rfl, rfl, SqL.of (s34 _ _ hg), xI_at lz (by omega) i1n ixv, _, rfl, _, _, rfl, rfl, wide_div (b := 2) (by decide) (by decide) (by decide) (by decide), _, _, rfl, rfl, wide_mul (a := 20) (b := 25) (by decide) ht2 (by decide) (by decide) (by decide), _, _, rfl, rfl, _, rfl, _, _, rfl, rfl, (show (2 : Int) ≠ 0 by decide), _, _, rfl, rfl, (by show 2 ≤ sizeLine; decide), fun t5 ht5 => ?_⟩
          have s5 := fun o => same_upd (o := o) ht5
          refine ⟨p, t5, l.1, l.2, (lowQ n f (xI zs) (i + 1)).1, (lowQ n f (xI zs) (i + 1)).2, rfl, s5 _ _ _ hp4, ?_, ?_⟩
          · rw [upd_same]
            unfold lowQ
            rw [Int.fmod_eq_emod_of_nonneg _ (by decide)]
          have z6 : ∀ o, (o = .tup [.int (lowQ n f (xI zs) (i + 1)).1, .int (lowQ n f (xI zs) (i + 1)).2]) → upd H4 t5 o (if l.1 < (lowQ n f (xI zs) (i + 1)).1 ∨ (l.1 = (lowQ n f (xI zs) (i + 1)).1 ∧ l.2 < (lowQ n f (xI zs) (i + 1)).2) then t5 else p) = some (.tup [.int (if l.1 < (lowQ n f (xI zs) (i + 1)).1 ∨ (l.1 = (lowQ n f (xI zs) (i + 1)).1 ∧ l.2 < (lowQ n f (xI zs) (i + 1)).2) then lowQ n f (xI zs) (i + 1) else l).1, .int (if l.1 < (lowQ n f (xI zs) (i + 1)).1 ∨ (l.1 = (lowQ n f (xI zs) (i + 1)).1 ∧ l.2 < (lowQ n f (xI zs) (i + 1)).2) then lowQ n f (xI zs) (i + 1) else l).2]) := fun o ho => by
            by_cases c : l.1 < (lowQ n f (xI zs) (i + 1)).1 ∨ (l.1 = (lowQ n f (xI zs) (i + 1)).1 ∧ l.2 < (lowQ n f (xI zs) (i + 1)).2)
            · rw [if_pos c, if_pos c, ho, upd_same]
            · rw [if_neg c, if_neg c]; exact s5 _ _ _ hp4
          have z6 := z6 (.tup [.int (xI zs (i + 1) - 6 * (f ((i + 1) * n) / 2)), .int (1 - (f ((i + 1) * n)).fmod 2)]) (by unfold lowQ; rw [Int.fmod_eq_emod_of_nonneg _ (by decide)])
          have l6 := low_step hl ne
          have k46 := s5 (.tup [.int (xI zs (i + 1) - 6 * (f ((i + 1) * n) / 2)), .int (1 - (f ((i + 1) * n)).fmod 2)])
          have s6 := s34.trans k46
          dsimp only at z6 ⊢
          generalize upd H4 t5 (.tup [.int (xI zs (i + 1) - 6 * (f ((i + 1) * n) / 2)), .int (1 - (f ((i + 1) * n)).fmod 2)]) = H6 at z6 k46 s6 ⊢
          generalize (if l.1 < (lowQ n f (xI zs) (i + 1)).1 ∨ (l.1 = (lowQ n f (xI zs) (i + 1)).1 ∧ l.2 < (lowQ n f (xI zs) (i + 1)).2) then t5 else p) = pl at z6 ⊢
          generalize (if l.1 < (lowQ n f (xI zs) (i + 1)).1 ∨ (l.1 = (lowQ n f (xI zs) (i + 1)).1 ∧ l.2 < (lowQ n f (xI zs) (i + 1)).2) then lowQ n f (xI zs) (i + 1) else l) = ll at z6 l6
          have z9 : H6 pl = some (.tup [.int ll.1, .int ll.2]) := z6
          refine ⟨_, rfl, _, rfl, _, _, rfl, rfl, g, _, _, _, rfl, rfl, SqL.of (s6 _ _ hg), xI_at lz (by omega) i1n ixv, _, rfl, _, _, rfl, rfl, wide_div (b := 2) (by decide) (by decide) (by decide) (by decide), _, _, rfl, rfl, wide_mul (a := 20) (b := 25) (by decide) hb2 (by decide) (by decide) (by decide), _, _, rfl, rfl, _, rfl, _, _, rfl, rfl, (show (2 : Int) ≠ 0 by decide), (by show 2 ≤ sizeLine; decide), fun t9 ht9 => ?_⟩
          have k9 := fun o => same_upd (o := o) ht9
          have fe : (f (i + 1)).fmod 2 = (highQ f (xI zs) (i + 1)).2 := Int.fmod_eq_emod_of_nonneg _ (by decide)
          have e9 : upd H6 t9 (.tup [.int (xI zs (i + 1) + 6 * (f (i + 1) / 2)), .int ((f (i + 1)).fmod 2)]) t9 = some (.tup [.int (highQ f (xI zs) (i + 1)).1, .int (highQ f (xI zs) (i + 1)).2]) := by
            rw [upd_same, fe]; rfl
          have S3 : ∀ r c, 1 ≤ r → r ≤ i + 1 → 1 ≤ c → c < n → satB (f (r * n + c)) (xI zs r - xI zs c) = true := fun r c r1 r2 c1 c2 => by
            by_cases y : r = i + 1
            · rw [y]; exact S2 c c1 (by omega)
            · exact S r c r1 (by omega) c1 c2
          by_cases i0 : i = 0
          · have hv0 := hn0 i0
            subst hv0
            refine ⟨_, rfl, rfl, _, rfl, ite2 (fun _ => ?_) (fun e => absurd (decide_eq_true rfl) e)⟩
            refine ⟨_, rfl, pl, ll, _, _, _, _, _, _, rfl, s6.trans (k9 _), k9 _ _ _ z9, l6, fun y => absurd y (by omega), fun _ => ⟨t9, highQ f (xI zs) (i + 1), rfl, e9, by rw [i0]; exact high_one _ _⟩, S3⟩
          · obtain ⟨b, h, rfl, hb, hh⟩ := hn1 (by omega)
            refine ⟨_, rfl, rfl, _, rfl, ite2 (fun e => ?_) (fun _ => ?_)⟩
            · have e2 : V.ref b = V.non := of_decide_eq_true e
              cases e2
            · refine ⟨_, rfl, _, rfl, b, t9, h.1, h.2, (highQ f (xI zs) (i + 1)).1, (highQ f (xI zs) (i + 1)).2, rfl, k9 _ _ _ (k46 _ _ (s4 _ _ hb)), e9, ?_⟩
              refine ⟨pl, ll, _, _, _, _, _, _, rfl, s6.trans (k9 _), k9 _ _ _ z9, l6, fun y => absurd y (by omega), fun _ => ⟨_, _, rfl, ?_, high_step hh⟩, S3⟩
              by_cases c : (highQ f (xI zs) (i + 1)).1 < h.1 ∨ ((highQ f (xI zs) (i + 1)).1 = h.1 ∧ (highQ f (xI zs) (i + 1)).2 < h.2)
              · rw [if_pos c, if_pos c]; exact e9
              · rw [if_neg c, if_neg c]; exact k9 _ _ _ (k46 _ _ (s4 _ _ hb))
        · have ee : f ((i + 1) * n) = 1000000 := Decidable.byContradiction fun y => e3 (by
            show (!decide (V.int (f ((i + 1) * n)) = V.int 1000000)) = true
            rw [decide_eq_false fun z => y (V.int.inj z)]; rfl)
          have z6 := hp4
          have l6 := low_skip hl ee
          have k46 := Same.refl H4
          have s6 := s34
          obtain ⟨H6, hH6⟩ : ∃ H6, H6 = H4 := ⟨_, rfl⟩
          rw [← hH6] at z6 s6 k46 ⊢
          have k46 : Same H4 H6 := by rw [hH6]; exact Same.refl _
          obtain ⟨pl, hpl⟩ : ∃ pl, pl = p := ⟨_, rfl⟩
          obtain ⟨ll, hll⟩ : ∃ ll, ll = l := ⟨_, rfl⟩
          rw [← hpl, ← hll] at z6
          rw [← hll] at l6
          rw [← hpl]
          have z9 : H6 pl = some (.tup [.int ll.1, .int ll.2]) := z6
          refine ⟨_, rfl, _, rfl, _, _, rfl, rfl, g, _, _, _, rfl, rfl, SqL.of (s6 _ _ hg), xI_at lz (by omega) i1n ixv, _, rfl, _, _, rfl, rfl, wide_div (b := 2) (by decide) (by decide) (by decide) (by decide), _, _, rfl, rfl, wide_mul (a := 20) (b := 25) (by decide) hb2 (by decide) (by decide) (by decide), _, _, rfl, rfl, _, rfl, _, _, rfl, rfl, (show (2 : Int) ≠ 0 by decide), (by show 2 ≤ sizeLine; decide), fun t9 ht9 => ?_⟩
          have k9 := fun o => same_upd (o := o) ht9
          have fe : (f (i + 1)).fmod 2 = (highQ f (xI zs) (i + 1)).2 := Int.fmod_eq_emod_of_nonneg _ (by decide)
          have e9 : upd H6 t9 (.tup [.int (xI zs (i + 1) + 6 * (f (i + 1) / 2)), .int ((f (i + 1)).fmod 2)]) t9 = some (.tup [.int (highQ f (xI zs) (i + 1)).1, .int (highQ f (xI zs) (i + 1)).2]) := by
            rw [upd_same, fe]; rfl
          have S3 : ∀ r c, 1 ≤ r → r ≤ i + 1 → 1 ≤ c → c < n → satB (f (r * n + c)) (xI zs r - xI zs c) = true := fun r c r1 r2 c1 c2 => by
            by_cases y : r = i + 1
            · rw [y]; exact S2 c c1 (by omega)
            · exact S r c r1 (by omega) c1 c2
          by_cases i0 : i = 0
          · have hv0 := hn0 i0
            subst hv0
            refine ⟨_, rfl, rfl, _, rfl, ite2 (fun _ => ?_) (fun e => absurd (decide_eq_true rfl) e)⟩
            refine ⟨_, rfl, pl, ll, _, _, _, _, _, _, rfl, s6.trans (k9 _), k9 _ _ _ z9, l6, fun y => absurd y (by omega), fun _ => ⟨t9, highQ f (xI zs) (i + 1), rfl, e9, by rw [i0]; exact high_one _ _⟩, S3⟩
          · obtain ⟨b, h, rfl, hb, hh⟩ := hn1 (by omega)
            refine ⟨_, rfl, rfl, _, rfl, ite2 (fun e => ?_) (fun _ => ?_)⟩
            · have e2 : V.ref b = V.non := of_decide_eq_true e
              cases e2
            · refine ⟨_, rfl, _, rfl, b, t9, h.1, h.2, (highQ f (xI zs) (i + 1)).1, (highQ f (xI zs) (i + 1)).2, rfl, k9 _ _ _ (k46 _ _ (s4 _ _ hb)), e9, ?_⟩
              refine ⟨pl, ll, _, _, _, _, _, _, rfl, s6.trans (k9 _), k9 _ _ _ z9, l6, fun y => absurd y (by omega), fun _ => ⟨_, _, rfl, ?_, high_step hh⟩, S3⟩
              by_cases c : (highQ f (xI zs) (i + 1)).1 < h.1 ∨ ((highQ f (xI zs) (i + 1)).1 = h.1 ∧ (highQ f (xI zs) (i + 1)).2 < h.2)
              · rw [if_pos c, if_pos c]; exact e9
              · rw [if_neg c, if_neg c]; exact k9 _ _ _ (k46 _ _ (s4 _ _ hb))
    · rintro σ H3 ⟨p, l, hv, u5, u6, u7, u8, u9, rfl, s3, hp, hl, hn0, hn1, S⟩
      have en : ((n : Int) - 1).toNat = n - 1 := by omega
      rw [en] at hl hn0 hn1 S
      obtain ⟨b, h, rfl, hb, hh⟩ := hn1 (by omega)
      have S3 : ∀ r c, 1 ≤ r → r < n → 1 ≤ c → c < n → satB (f (r * n + c)) (xI zs r - xI zs c) = true := fun r c r1 r2 => S r c r1 (by omega)
      have key := later_iff (x := xI zs) zn rfl S3 hl hh
      have q2 := q _ s3
      rw [key] at q2
      have dv : ∀ x y : Int, decide (V.int x = V.int y) = decide (x = y) := fun x y => decide_eq_decide.mpr ⟨V.int.inj, fun y => by rw [y]⟩
      have l0 : SqT K H3 p [.int l.1, .int l.2] := SqT.of hp
      have h0 : SqT K H3 b [.int h.1, .int h.2] := SqT.of hb
      refine ⟨_, rfl, p, _, 0, .int l.1, rfl, rfl, l0, atI_nat (j := 0) rfl, _, rfl, b, _, 0, .int h.1, rfl, rfl, h0, atI_nat (j := 0) rfl, _, _, rfl, rfl, _, rfl, ?_⟩
      unfold cqB at q2
      by_cases e1 : l.1 < h.1
      · rw [decide_eq_true e1, Bool.true_or] at q2
        rw [if_pos (decide_eq_true e1)]
        exact q2
      · rw [decide_eq_false e1, Bool.false_or] at q2
        rw [if_neg (by rw [decide_eq_false e1]; decide)]
        refine ⟨_, rfl, p, _, 0, .int l.1, rfl, rfl, l0, atI_nat (j := 0) rfl, _, rfl, b, _, 0, .int h.1, rfl, rfl, h0, atI_nat (j := 0) rfl, rfl, _, rfl, ?_⟩
        rw [dv]
        by_cases e2 : l.1 = h.1
        · rw [decide_eq_true e2, Bool.true_and] at q2
          rw [if_pos (decide_eq_true e2)]
          refine ⟨_, rfl, p, _, 1, .int l.2, rfl, rfl, l0, atI_nat (j := 1) rfl, rfl, _, rfl, ?_⟩
          rw [dv]
          by_cases e3 : l.2 = 0
          · rw [decide_eq_true e3, Bool.true_and] at q2
            rw [if_pos (decide_eq_true e3)]
            refine ⟨_, rfl, b, _, 1, .int h.2, rfl, rfl, h0, atI_nat (j := 1) rfl, rfl, ?_⟩
            rw [dv]
            exact q2
          · rw [decide_eq_false e3, Bool.false_and] at q2
            rw [if_neg (by rw [decide_eq_false e3]; decide)]
            exact q2
        · rw [decide_eq_false e2, Bool.false_and] at q2
          rw [if_neg (by rw [decide_eq_false e2]; decide)]
          exact q2
end
end My

namespace My
open PySem PySem.Spec PyProof.Rows L2
/-- values of any kind, as drawn; p: the pot -/
inductive Odd (p : Addr) (H : Hp) : V → Prop where
  | non : Odd p H .non
  | bl (b : Bool) : Odd p H (.bl b)
  | int (i : Int) (h : i.natAbs < 2 ^ 1000) : Odd p H (.int i)
  | str (s : Str) (h : s.length < 100) : Odd p H (.str s)
  | tup {a : Addr} {xs : List V} (e : H a = some (.tup xs)) (h : ∀ x ∈ xs, Odd p H x) (l : xs.length ≤ 1000 := by simp) : Odd p H (.ref a)
  | lst {a : Addr} {xs : List V} (n : a ≠ p) (e : H a = some (.lst xs)) : Odd p H (.ref a)
  | dct {a : Addr} {kvs : List (Key × V)} (e : H a = some (.dK kvs)) : Odd p H (.ref a)
theorem Odd.but {p : Addr} {H H' : Hp} {ys : List V} (hp : H p = some (.lst ys)) (b : But p H H') : ∀ {v : V}, Odd p H v → Odd p H' v := by
  intro v o
  induction o with
  | non => exact .non
  | bl b => exact .bl b
  | int i h => exact .int i h
  | str s h => exact .str s h
  | tup e _ l ih => exact .tup (b _ _ (fun z => by subst z; rw [hp] at e; cases e) e) ih l
  | lst n e => exact .lst n (b _ _ n e)
  | dct e => exact .dct (b _ _ (fun z => by subst z; rw [hp] at e; cases e) e)
theorem Odd.same {p : Addr} {H H' : Hp} (b : Same H H') : ∀ {v : V}, Odd p H v → Odd p H' v := by
  intro v o
  induction o with
  | non => exact .non
  | bl b => exact .bl b
  | int i h => exact .int i h
  | str s h => exact .str s h
  | tup e _ l ih => exact .tup (b _ _ e) ih l
  | lst n e => exact .lst n (b _ _ e)
  | dct e => exact .dct (b _ _ e)
theorem Odd.known {p : Addr} {H : Hp} {v : V} (o : Odd p H v) : Known H v := by
  cases o with
  | non => exact .non
  | bl b => exact .bl b
  | int i h => exact .int i
  | str s h => exact .str s
  | tup e h l => exact .tup e
  | lst n e => exact .lst e
  | dct e => exact .dct e
theorem Odd.zv {p : Addr} {H : Hp} {v : V} (o : Odd p H v) : ∃ y, ZV H v y := by
  cases o with
  | non => exact ⟨_, .no .non⟩
  | bl b => exact ⟨_, .no (.bl b)⟩
  | int i h => exact ⟨_, .no (.int i)⟩
  | str s h => exact ⟨_, .no (.str s)⟩
  | tup e h l => exact ⟨_, .tup e (fun y hy => (h y hy).known) l⟩
  | lst n e => exact ⟨_, .no (.lst e)⟩
  | dct e => exact ⟨_, .no (.dct e)⟩
theorem PotAt.lst {H : Hp} {p : Addr} {n : Nat} (h : PotAt H p n) : ∃ ys, H p = some (.lst ys) := by
  obtain ⟨_, _, _, h1, _⟩ := h
  exact ⟨_, h1⟩
/-- _law_odd(pot) -/
def spOdd : Sp := fun vs H Q _ => ∃ (p : Addr) (n : Nat), vs = [.ref p] ∧ PotAt H p n ∧ n < 2 ^ 50 ∧ ∀ v H', Odd p H' v → But p H H' → PotAt H' p (n + 10) → Q v H'
section
variable {P : Program} {w : World} {K : PySem.W.Frag} {mg : Str → Option Value} {base : Heap} {A : Nat → Addr} {D : Nat → FuncData}
theorem ok_odd (T : Txt K mg A D) : FnG P w K mg base CX0 3 (A 26) (D 26) ["pot"] spOdd := by
  have G__law_of := ok_of (P := P) (w := w) (base := base) T
  have G__law_take := ok_take (P := P) (w := w) (base := base) T
  refine def_ok0 T.F__law_odd sc__law_odd (fun vs H Q E h => ?_) (fun cdv Ar outer s H vs Q E hr hG h => ?_)
  · obtain ⟨p, n, rfl, _⟩ := h; rfl
  · obtain ⟨p, n, rfl, hp, hn, q⟩ := h
    refine ⟨_, (pss_cons (ps_set (i := 1) sc__law_odd.nd rfl (Or.inl rfl) (pe_lst (pa_cons pe_non (pa_cons pe_bl (pa_cons pe_bl (pa_cons pe_int (pa_cons (pe_un un_neg pe_int) (pa_cons pe_int (pa_cons (pe_op op_powB pe_int pe_int) (pa_cons pe_str (pa_cons pe_str (pa_cons pe_str (pa_cons pe_str (pa_cons (pe_tup pa_nil) (pa_cons (pe_lst pa_nil) (pa_cons pe_dnewK (pa_cons (pe_tup (pa_cons pe_str pa_nil)) (pa_cons (pe_lst (pa_cons pe_str pa_nil)) (pa_cons (pe_tup (pa_cons pe_int (pa_cons pe_int pa_nil))) (pa_cons (pe_tup (pa_cons pe_non (pa_cons (pe_tup pa_nil) pa_nil))) pa_nil))))))))))))))))))))
      (pss_cons (ps_set (i := 2) sc__law_odd.nd rfl (Or.inl rfl) (pe_cg G__law_of (hr.mono (by first | decide | omega)) hG (by rfl) T.g__law_of T.F__law_of.kp T.b__law_of pass0 (pa_cons (pv 0) (pa_cons (pv 1) pa_nil))))
      (pss_cons (ps_for (by first | exact PassesOwn.never | exact PassesOwn.leaving | exact L2.passes_of rfl) rfl (pi_range1 rfl T.n_range (pa_cons (pe_cg G__law_take (hr.mono (by first | decide | omega)) hG (by rfl) T.g__law_take T.F__law_take.kp T.b__law_take pass0 (pa_cons (pv 0) (pa_cons pe_int pa_nil))) pa_nil)) (pg_name (i := 3) sc__law_odd.nd rfl (Or.inl rfl)) (pss_one (ps_set (i := 2) sc__law_odd.nd rfl (Or.inl rfl) (pe_cg G__law_of (hr.mono (by first | decide | omega)) hG (by rfl) T.g__law_of T.F__law_of.kp T.b__law_of pass0 (pa_cons (pv 0) (pa_cons (pe_lst (pa_cons (pe_tup (pa_cons (pv 2) pa_nil)) (pa_cons (pe_lst (pa_cons (pv 2) pa_nil)) (pa_cons (pe_disp (pps_cons pe_str (pv 2) pps_nil) (by rfl) (by rfl) (fun z => by cases z) (by decide)) (pa_cons (pe_tup (pa_cons (pv 2) (pa_cons (pv 2) pa_nil))) (pa_cons (pe_tup (pa_cons pe_str (pa_cons (pv 2) pa_nil))) pa_nil)))))) pa_nil))))))
      (pss_one (ps_ret (pv 2)))))), ?_⟩
    refine ⟨1, rfl, 10, 9, rfl, rfl, powB 10 (by decide) (by decide) (by decide) (by decide), (by show 0 ≤ sizeLine; decide), fun t1 h1 => ?_⟩
    have S1 : Same H (upd H t1 (.tup [])) := same_upd h1
    have e1 : (upd H t1 (.tup [])) t1 = some (.tup []) := upd_same
    generalize (upd H t1 (.tup [])) = H1 at S1 e1 ⊢
    refine ⟨(by show 0 ≤ sizeLine; decide), fun l1 h2 => ?_⟩
    have S2 : Same H1 (upd H1 l1 (.lst [])) := same_upd h2
    have e2 : (upd H1 l1 (.lst [])) l1 = some (.lst []) := upd_same
    have n1 := (hp.same S1).ne h2
    generalize (upd H1 l1 (.lst [])) = H2 at S2 e2 ⊢
    refine fun d1 h3 => ?_
    have S3 : Same H2 (upd H2 d1 (.dK [])) := same_upd h3
    have e3 : (upd H2 d1 (.dK [])) d1 = some (.dK []) := upd_same
    generalize (upd H2 d1 (.dK [])) = H3 at S3 e3 ⊢
    refine ⟨(by show 1 ≤ sizeLine; decide), fun t2 h4 => ?_⟩
    have S4 : Same H3 (upd H3 t2 (.tup [.str "a"])) := same_upd h4
    have e4 : (upd H3 t2 (.tup [.str "a"])) t2 = some (.tup [.str "a"]) := upd_same
    generalize (upd H3 t2 (.tup [.str "a"])) = H4 at S4 e4 ⊢
    refine ⟨(by show 1 ≤ sizeLine; decide), fun l2 h5 => ?_⟩
    have S5 : Same H4 (upd H4 l2 (.lst [.str "a"])) := same_upd h5
    have e5 : (upd H4 l2 (.lst [.str "a"])) l2 = some (.lst [.str "a"]) := upd_same
    have n2 := (hp.same (((S1.trans S2).trans S3).trans S4)).ne h5
    generalize (upd H4 l2 (.lst [.str "a"])) = H5 at S5 e5 ⊢
    refine ⟨(by show 2 ≤ sizeLine; decide), fun t3 h6 => ?_⟩
    have S6 : Same H5 (upd H5 t3 (.tup [.int 1, .int 2])) := same_upd h6
    have e6 : (upd H5 t3 (.tup [.int 1, .int 2])) t3 = some (.tup [.int 1, .int 2]) := upd_same
    generalize (upd H5 t3 (.tup [.int 1, .int 2])) = H6 at S6 e6 ⊢
    refine ⟨(by show 0 ≤ sizeLine; decide), fun t4 h7 => ?_⟩
    have S7 : Same H6 (upd H6 t4 (.tup [])) := same_upd h7
    have e7 : (upd H6 t4 (.tup [])) t4 = some (.tup []) := upd_same
    generalize (upd H6 t4 (.tup [])) = H7 at S7 e7 ⊢
    refine ⟨(by show 2 ≤ sizeLine; decide), fun t5 h8 => ?_⟩
    have S8 : Same H7 (upd H7 t5 (.tup [.non, .ref t4])) := same_upd h8
    have e8 : (upd H7 t5 (.tup [.non, .ref t4])) t5 = some (.tup [.non, .ref t4]) := upd_same
    generalize (upd H7 t5 (.tup [.non, .ref t4])) = H8 at S8 e8 ⊢
    refine ⟨(by show 18 ≤ sizeLine; decide), fun L h9 => ?_⟩
    have S18 := (((((((S1.trans S2).trans S3).trans S4).trans S5).trans S6).trans S7).trans S8)
    obtain ⟨xs, hxs⟩ : ∃ xs : List V, xs = [.non, .bl true, .bl false, .int 0, .int (-1), .int 7, .int (10 ^ (9 : Int).toNat), .str "", .str "a", .str "p", .str "holds", .ref t1, .ref l1, .ref d1, .ref t2, .ref l2, .ref t3, .ref t5] := ⟨_, rfl⟩
    have odd8 : ∀ x ∈ xs, Odd p H8 x := by
      intro x hx
      rw [hxs] at hx
      simp only [List.mem_cons, List.not_mem_nil, or_false] at hx
      have g4 : Odd p H8 (.ref t4) := .tup (S8 _ _ e7) (fun x hx => absurd hx List.not_mem_nil)
      rcases hx with rfl | rfl | rfl | rfl | rfl | rfl | rfl | rfl | rfl | rfl | rfl | rfl | rfl | rfl | rfl | rfl | rfl | rfl
      · exact .non
      · exact .bl _
      · exact .bl _
      · exact .int _ (by decide +kernel)
      · exact .int _ (by decide +kernel)
      · exact .int _ (by decide +kernel)
      · exact .int _ (by decide +kernel)
      · exact .str _ (by decide)
      · exact .str _ (by decide)
      · exact .str _ (by decide)
      · exact .str _ (by decide)
      · exact .tup (S8 _ _ (S7 _ _ (S6 _ _ (S5 _ _ (S4 _ _ (S3 _ _ (S2 _ _ e1))))))) (fun x hx => absurd hx List.not_mem_nil)
      · exact .lst n1 (S8 _ _ (S7 _ _ (S6 _ _ (S5 _ _ (S4 _ _ (S3 _ _ e2))))))
      · exact .dct (S8 _ _ (S7 _ _ (S6 _ _ (S5 _ _ (S4 _ _ e3)))))
      · refine .tup (S8 _ _ (S7 _ _ (S6 _ _ (S5 _ _ e4)))) (fun x hx => ?_)
        rw [List.mem_singleton.mp hx]; exact .str _ (by decide)
      · exact .lst n2 (S8 _ _ (S7 _ _ (S6 _ _ e5)))
      · refine .tup (S8 _ _ (S7 _ _ e6)) (fun x hx => ?_)
        simp only [List.mem_cons, List.not_mem_nil, or_false] at hx
        rcases hx with rfl | rfl <;> exact .int _ (by decide +kernel)
      · refine .tup e8 (fun x hx => ?_)
        simp only [List.mem_cons, List.not_mem_nil, or_false] at hx
        rcases hx with rfl | rfl
        · exact .non
        · exact g4
    have S9 : Same H8 (upd H8 L (.lst xs)) := same_upd h9
    have S19 := S18.trans S9
    have hp9 := hp.same S19
    refine ⟨_, rfl, _, rfl, p, L, xs, n, rfl, by rw [hxs] at hp9; exact hp9, by omega, (hp.same S18).ne h9, SqL.of (by rw [hxs]; exact upd_same), by rw [hxs]; exact List.cons_ne_nil _ _, by rw [hxs]; show 18 < 2 ^ 24; decide, fun x H10 hx b10 hp10 => ?_⟩
    rw [hxs] at S9 S19 hp9
    obtain ⟨ys, hys⟩ := hp9.lst
    have ox : Odd p H10 x := ((odd8 x hx).same S9).but hys b10
    have B10 : But p H H10 := (But.of S19).trans b10
    refine ⟨_, rfl, p, 3, n + 1, rfl, hp10, by omega, by decide, by decide, fun j H11 j0 j1 b11 hp11 => ?_⟩
    obtain ⟨ys2, hys2⟩ := hp10.lst
    refine ⟨j, rfl, by omega, by omega, for_range (lo := 0) (n := j.toNat) (fun i σ H' => ∃ v u, σ = [some (.ref p), some (.ref L), some v, u] ∧ Odd p H' v ∧ PotAt H' p (n + 2 + i) ∧ But p H H') ⟨x, none, rfl, ox.but hys2 b11, hp11.mono (by omega), B10.trans b11⟩ ?_ ?_⟩
    · rintro i σ H12 hi ⟨v, u, rfl, ov, hp12, b12⟩
      refine ⟨_, rfl, _, rfl, (by show 1 ≤ sizeLine; decide), fun a1 k1 => ?_⟩
      have T1 : Same H12 (upd H12 a1 (.tup [v])) := same_upd k1
      have f1 : (upd H12 a1 (.tup [v])) a1 = some (.tup [v]) := upd_same
      generalize (upd H12 a1 (.tup [v])) = G1 at T1 f1 ⊢
      refine ⟨_, rfl, (by show 1 ≤ sizeLine; decide), fun a2 k2 => ?_⟩
      have T2 : Same G1 (upd G1 a2 (.lst [v])) := same_upd k2
      have f2 : (upd G1 a2 (.lst [v])) a2 = some (.lst [v]) := upd_same
      have m2 := (hp12.same T1).ne k2
      generalize (upd G1 a2 (.lst [v])) = G2 at T2 f2 ⊢
      refine fun a3 k3 => ?_
      refine ⟨_, rfl, upd_same, [(Sum.inr "k", v)], rfl, by show 1 ≤ 15; decide, ?_⟩
      rw [upd_upd]
      have T3 : Same G2 (upd G2 a3 (.dK (mergeK [] [(Sum.inr "k", v)]))) := same_upd k3
      have f3 : (upd G2 a3 (.dK (mergeK [] [(Sum.inr "k", v)]))) a3 = some (.dK (mergeK [] [(Sum.inr "k", v)])) := upd_same
      generalize (upd G2 a3 (.dK (mergeK [] [(Sum.inr "k", v)]))) = G3 at T3 f3 ⊢
      refine ⟨_, rfl, _, rfl, (by show 2 ≤ sizeLine; decide), fun a4 k4 => ?_⟩
      have T4 : Same G3 (upd G3 a4 (.tup [v, v])) := same_upd k4
      have f4 : (upd G3 a4 (.tup [v, v])) a4 = some (.tup [v, v]) := upd_same
      generalize (upd G3 a4 (.tup [v, v])) = G4 at T4 f4 ⊢
      refine ⟨_, rfl, (by show 2 ≤ sizeLine; decide), fun a5 k5 => ?_⟩
      have T5 : Same G4 (upd G4 a5 (.tup [.str "at", v])) := same_upd k5
      have f5 : (upd G4 a5 (.tup [.str "at", v])) a5 = some (.tup [.str "at", v]) := upd_same
      generalize (upd G4 a5 (.tup [.str "at", v])) = G5 at T5 f5 ⊢
      refine ⟨(by show 5 ≤ sizeLine; decide), fun M k6 => ?_⟩
      have T15 := (((T1.trans T2).trans T3).trans T4).trans T5
      have ov5 := ov.same T15
      have T6 : Same G5 (upd G5 M (.lst [.ref a1, .ref a2, .ref a3, .ref a4, .ref a5])) := same_upd k6
      have odds : ∀ x ∈ [V.ref a1, .ref a2, .ref a3, .ref a4, .ref a5], Odd p G5 x := by
        intro x hx
        simp only [List.mem_cons, List.not_mem_nil, or_false] at hx
        rcases hx with rfl | rfl | rfl | rfl | rfl
        · refine .tup (T5 _ _ (T4 _ _ (T3 _ _ (T2 _ _ f1)))) (fun x hx => ?_)
          rw [List.mem_singleton.mp hx]; exact ov5
        · exact .lst m2 (T5 _ _ (T4 _ _ (T3 _ _ f2)))
        · exact .dct (T5 _ _ (T4 _ _ f3))
        · refine .tup (T5 _ _ f4) (fun x hx => ?_)
          simp only [List.mem_cons, List.not_mem_nil, or_false] at hx
          rcases hx with rfl | rfl <;> exact ov5
        · refine .tup f5 (fun x hx => ?_)
          simp only [List.mem_cons, List.not_mem_nil, or_false] at hx
          rcases hx with rfl | rfl
          · exact .str _ (by decide)
          · exact ov5
      have hpG := (hp12.same T15).same T6
      refine ⟨p, M, _, n + 2 + i, rfl, hpG, by omega, (hp12.same T15).ne k6, SqL.of upd_same, List.cons_ne_nil _ _, by show 5 < 2 ^ 24; decide, fun y H13 hy b13 hp13 => ?_⟩
      obtain ⟨ys3, hys3⟩ := hpG.lst
      exact ⟨y, _, rfl, ((odds y hy).same T6).but hys3 b13, hp13, (b12.trans (But.of (T15.trans T6))).trans b13⟩
    · rintro σ H12 ⟨v, u, rfl, ov, hp12, b12⟩
      exact ⟨_, rfl, q v H12 ov b12 (hp12.mono (by omega))⟩
end
end My

/-! t[::-1] of a tuple: not of one law. -/
namespace My
open PySem PySem.Spec PyProof.Rows L2 HT
section
variable {prog : Program} {w : World} {A : Around} {E : Value → Shared → Prop} {s : Shared}
theorem adjust_rev (n : Nat) : Builtin.Slice.sliceAdjust none none (-1) (n : Int) = ((n : Int) - 1, -1) := by
  unfold Builtin.Slice.sliceAdjust
  rfl
theorem places_rev (n : Nat) : Builtin.Slice.slicePlaces ((n : Int) - 1) (-1) (-1) = n := by
  unfold Builtin.Slice.slicePlaces
  rw [if_neg (by decide)]
  by_cases h : (n : Int) - 1 > -1
  · rw [if_pos h, show (-(-1 : Int)) = 1 by decide, Int.ediv_one]; omega
  · rw [if_neg h]; omega
theorem applied_rev {sl : Addr} {vl vu vs : Value} {n : Nat} {Q : Int × Int × Nat → Shared → Prop} (hs : s.heap.IsSliceOf sl vl vu vs) (pl : IsPart vl none) (pu : IsPart vu none) (ps : IsPart vs (some (-1)))
    (h : Q ((n : Int) - 1, -1, n) s) : wpAny (model prog w) A (Builtin.Slice.sliceApplied (.ref sl) (pure (n : Int))) Q E s := by
  obtain ⟨os, hos, hcs, hds⟩ := id hs
  unfold Builtin.Slice.sliceApplied Builtin.Slice.sliceFields
  refine wpAny_bind (wpAny_bind (wpAny_field hos hds (x := vl) rfl (wpAny_bind (wpAny_field hos hds (x := vu) rfl (wpAny_bind (wpAny_field hos hds (x := vs) rfl (wpAny_pure ?_)))))))
  refine wpAny_bind (slicePart_ ps ?_)
  show wpAny _ _ (if ((-1 : Int) == 0) = true then _ else _) _ _ s
  rw [if_neg (by decide)]
  refine wpAny_bind (slicePart_ pl (wpAny_bind (slicePart_ pu (wpAny_bind (wpAny_pure ?_)))))
  show wpAny _ _ (match Builtin.Slice.sliceAdjust none none (-1) (n : Int) with | (lo, hi) => pure (lo, (-1 : Int), Builtin.Slice.slicePlaces lo hi (-1))) _ _ s
  rw [adjust_rev n]
  show wpAny _ _ (pure ((n : Int) - 1, (-1 : Int), Builtin.Slice.slicePlaces ((n : Int) - 1) (-1) (-1))) _ _ s
  rw [places_rev]
  exact wpAny_pure h
theorem pick_rev (xs : Array Value) : ((List.range xs.size).filterMap fun (m : Nat) => xs[((xs.size : Int) - 1 + (m : Int) * -1).toNat]?).toArray = xs.toList.reverse.toArray := by
  congr 1
  have e : (List.range xs.size).filterMap (fun (m : Nat) => xs[((xs.size : Int) - 1 + (m : Int) * -1).toNat]?) = ((List.range xs.size).map fun k => xs.size - 1 - k).filterMap (xs[·]?) := by
    rw [List.filterMap_map]
    congr 1
    funext m
    show xs[((xs.size : Int) - 1 + (m : Int) * -1).toNat]? = xs[xs.size - 1 - m]?
    congr 1
    omega
  rw [e, PySem.W.krv_range, List.filterMap_reverse, PySem.W.krv_all]
theorem getItem_rev {t sl : Addr} {items : Array Value} {vl vu vs : Value} {Q : Value → Shared → Prop} (ht : IsTup s.heap t items) (hs : s.heap.IsSliceOf sl vl vu vs) (pl : IsPart vl none) (pu : IsPart vu none) (ps : IsPart vs (some (-1)))
    (h : Q (.ref s.heap.objs.size) { s with heap := s.heap.push { cls := .type "tuple", data := .seq items.toList.reverse.toArray } })
    (hsz : items.size ≤ sizeLine) : wpAny (model prog w) A (getItem (.ref t) (.ref sl)) Q E s := by
  have htake : sizeOk (.seq items.toList.reverse.toArray) := by
    show items.toList.reverse.toArray.size ≤ sizeLine
    rw [List.size_toArray, List.length_reverse, Array.length_toList]
    omega
  obtain ⟨os, hos, hcs, hds⟩ := id hs
  have hTs : s.TypeIs (.ref sl) "slice" := ⟨os, hos, hcs⟩
  unfold getItem
  try with_reducible refine wpAny_holding ?_
  first | refine wpAny_bind (wpAny_pure ?_) | skip
  refine wpAny_bind (wpAny_sequenceKey ht.typeIs (by decide) ?_)
  refine wpAny_bind (wpAny_callSpecial?_slot (name := Str.ofString "__getitem__") ht.typeIs PyProof.Rows.slot_tuple_getitem
    (wpAny_call_entry PyProof.Rows.slot_tuple_getitem ht.typeIs entry_tuple_getitem ?_ (args_tuple_getitem _ _)))
  show wpAny _ _ (Builtin.Tuple.tupleItemsOf (.ref t) >>= _) _ _ s
  refine wpAny_bind (tupleItemsOf_ ht ?_)
  refine wpAny_bind (wpAny_typeOf hTs ?_)
  rw [if_pos (by decide)]
  refine wpAny_bind (applied_rev hs pl pu ps ?_)
  have hno : ¬ ((((items.size : Int) - 1) == 0 && (-1 : Int) == 1 && items.size == items.size) = true) := by
    intro q
    rw [Bool.and_eq_true, Bool.and_eq_true] at q
    exact absurd q.1.2 (by decide)
  show wpAny _ _ (if (((items.size : Int) - 1) == 0 && (-1 : Int) == 1 && items.size == items.size) = true then _ else _) _ _ s
  rw [if_neg hno, pick_rev]
  first
    | exact wpAny_bind (m := Builtin.Tuple.tupleExact _) (wpAny_newObj_type (wpAny_pure ⟨_, rfl, wpAny_pure h⟩) htake)
    | exact wpAny_bind (m := Builtin.Tuple.tupleExact _) (wpAny_newObj_type (wpAny_bind (wpAny_pure (wpAny_pure ⟨_, rfl, wpAny_pure h⟩))) htake)
    | exact wpAny_bind (wpAny_bind (m := Builtin.Tuple.tupleExact _) (wpAny_newObj_type (wpAny_pure (wpAny_pure ⟨_, rfl, wpAny_pure h⟩)) htake))
    | exact wpAny_bind (wpAny_bind (m := Builtin.Tuple.tupleExact _) (wpAny_newObj_type (wpAny_pure ⟨_, rfl, wpAny_pure h⟩) htake))
end
section
variable {X : Cx}
def tRevT (K : PySem.W.Frag) (te : TE) : TE := fun σ H Q => te σ H fun x H1 => ∃ a xs, x = .ref a ∧ SqT K H1 a xs ∧ ∀ p, H1 p = none → Q (.ref p) (upd H1 p (.tup xs.reverse))
theorem pe_revT {e : Expr} {te : TE} {k : Nat} {p1 p2 p3 pos : Pos} (he : PE X e te) : PE X (.Subscript e (.Slice none none (some (.UnaryOp .USub (.Constant (.int 1) k p1) p2)) p3) pos) (tRevT X.K te) := by
  refine ⟨fun pins s σ H Q I h => ?_⟩
  refine Subscript_ (thn (he.run pins s σ H _ I h) fun v s1 ⟨x, H1, I1, r1, q1⟩ => ?_)
  obtain ⟨a, xs, ex, hx, q⟩ := q1
  subst ex
  cases r1
  have hst : PO X (some (.UnaryOp .USub (.Constant (.int 1) k p1) p2)) (tPart (tUn (rU fun i => .int (-i)) (tC (.int 1)))) := po_some (pe_un un_neg pe_int)
  refine wpAny_Slice (thn (po_none.run pins s1 σ H1 (fun o H2 => o = none ∧ H2 = H1) I1 ⟨rfl, rfl⟩) fun vl s2 ⟨l, H2, I2, pl, el, e2⟩ => ?_)
  subst el e2
  refine thn (po_none.run pins s2 σ H2 (fun o H3 => o = none ∧ H3 = H2) I2 ⟨rfl, rfl⟩) fun vu s3 ⟨u, H3, I3, pu, eu, e3⟩ => ?_
  subst eu e3
  refine thn (hst.run pins s3 σ H3 (fun o H4 => o = some (-1) ∧ H4 = H3) I3 ⟨1, rfl, -1, rfl, rfl, rfl⟩) fun vs s4 ⟨o, H4, I4, ps, eo, e4⟩ => ?_
  subst eo e4
  have I5 : Inv X pins σ H4 { s4 with heap := s4.heap.push { cls := .type "slice", data := .fields #[vl, vu, vs] } } := I4.kept (t' := s4.toks) fun b ob q => Heap.get?_push_of_some _ q
  obtain ⟨its, r, ht, hz⟩ := I5.tuple hx
  have hlen := r.length
  show wpAny (model X.prog X.w) X.A (subscriptTail e (.Slice none none (some (.UnaryOp .USub (.Constant (.int 1) k p1) p2)) p3) (.ref a) (.ref s4.heap.objs.size)) (EP X pins σ Q) X.xe { s4 with heap := s4.heap.push { cls := .type "slice", data := .fields #[vl, vu, vs] } }
  refine tail_any (ops := [.ref a, .ref s4.heap.objs.size]) ht.typeIs (PyProof.Rows.slot_tuple_getitem.lookup) ?_ (by with_unfolding_all rfl)
  refine getItem_rev ht (Heap.IsSliceOf.new _ vl vu vs) pl pu ps ?_ (by rw [List.size_toArray]; omega)
  refine ⟨.ref _, _, I5.laid (t' := s4.toks) (o := .tup xs.reverse) (fun b ob q => Heap.get?_push_of_some _ q) (Nat.le_refl _) ?_, rfl, q _ (I5.hok.fresh (Nat.le_refl _))⟩
  exact ⟨by rw [List.length_reverse]; exact hz, _, r.reverse, IsTup.new _ _⟩
end
end My

namespace My
open PySem PySem.Spec PyProof.Rows L2
/-- _law_bent(pot, value), value a whole number -/
def spBentI : Sp := fun vs H Q _ => ∃ (p : Addr) (n : Nat) (z : Int), vs = [.ref p, .int z] ∧ PotAt H p n ∧ n < 2 ^ 50 ∧ z.natAbs < 2 ^ 25 ∧ ∀ v H', Known H' v → But p H H' → PotAt H' p (n + 1) → Q v H'
theorem cut_whole {xs : List V} {lo hi : Option Int} (h : HT.sIx xs.length 0 lo = 0 ∧ HT.sIx xs.length xs.length hi = xs.length) : cutV xs lo hi = xs := by
  unfold cutV
  rw [h.1, h.2, List.drop_zero, Nat.sub_zero, List.take_length]
theorem slA_of {K : PySem.W.Frag} {H : Hp} {a : Addr} {xs : List V} {lo hi : Option Int} {Q : VK} (h : H a = some (.tup xs)) (k : ∀ r H', Same H H' → H' r = some (.tup (cutV xs lo hi)) → Q (.ref r) H') : rSlA K (.ref a) lo hi H Q :=
  ⟨a, xs, rfl, SqT.of h, fun w => k a H (Same.refl _) (by rw [cut_whole w]; exact h), fun _ p hp => k p _ (same_upd hp) upd_same⟩
theorem catA_of {K : PySem.W.Frag} {H : Hp} {a b : Addr} {xs ys : List V} {Q : VK} (ha : H a = some (.tup xs)) (hb : H b = some (.tup ys)) (l : xs.length + ys.length ≤ sizeLine) (k : ∀ r H', Same H H' → H' r = some (.tup (xs ++ ys)) → Q (.ref r) H') : rCatA K (.ref a) (.ref b) H Q :=
  ⟨a, b, xs, ys, rfl, rfl, SqT.of ha, SqT.of hb, l, fun e => k b H (Same.refl _) (by rw [e, List.nil_append]; exact hb), fun _ e => k a H (Same.refl _) (by rw [e, List.append_nil]; exact ha), fun _ _ p hp => k p _ (same_upd hp) upd_same⟩
theorem cut_mem {xs : List V} {lo hi : Option Int} {x : V} (h : x ∈ cutV xs lo hi) : x ∈ xs := List.mem_of_mem_drop (List.mem_of_mem_take h)
/-- _law_bent(pot, value), value a tuple of whole numbers -/
def spBent : Sp := fun vs H Q _ => ∃ (p a : Addr) (n m : Nat) (f : Nat → Int), vs = [.ref p, .ref a] ∧ PotAt H p n ∧ n + 10 < 2 ^ 50 ∧ H a = some (.tup (tab m f)) ∧ 1 ≤ m ∧ m ≤ 4 ∧ BdN (m * m) 25 f ∧
  ∀ v o H', ZV H' v o → But p H H' → PotAt H' p (n + 3) → Q v H'
section
variable {P : Program} {w : World} {K : PySem.W.Frag} {mg : Str → Option Value} {base : Heap} {A : Nat → Addr} {D : Nat → FuncData}
theorem never_g : FnG P w K mg base CX0 0 (A 27) (D 27) ["pot", "value"] (fun _ _ _ _ => False) := ⟨fun _ _ _ _ h => h.elim, fun _ _ _ _ _ _ _ _ _ _ _ _ _ _ h => h.elim⟩
theorem ok_bentI (T : Txt K mg A D) : FnG P w K mg base CX0 3 (A 27) (D 27) ["pot", "value"] spBentI := by
  have G__law_of := ok_of (P := P) (w := w) (base := base) T
  have G__law_take := ok_take (P := P) (w := w) (base := base) T
  have G__law_bent := never_g (P := P) (w := w) (base := base) (K := K) (mg := mg) (A := A) (D := D)
  refine def_ok0 T.F__law_bent sc__law_bent (fun vs H Q E h => ?_) (fun cdv Ar outer s H vs Q E hr hG h => ?_)
  · obtain ⟨p, n, z, rfl, _⟩ := h; rfl
  · obtain ⟨p, n, z, rfl, hp, hn, hz, q⟩ := h
    refine ⟨_, (pss_cons (ps_if (PW.pt (pw_or (pt_val (pe_callB call_isi (by rfl) T.n_isinstance (by decide +kernel) (pa_cons (pv 1) (pa_cons (pe_bltn (v := .ty "bool") (by rfl) T.n_bool (by decide +kernel) rfl) pa_nil)))) (pw_or (pt_cmpR op_isN (pv 1) pe_non (nomark _)) (pw_or1 (pt_val (pe_callB call_isiT (by rfl) T.n_isinstance (by decide +kernel) (pa_cons (pv 1) (pa_cons (pe_tup (pa_cons (pe_bltn (v := .ty "int") (by rfl) T.n_int (by decide +kernel) rfl) (pa_cons (pe_bltn (v := .ty "str") (by rfl) T.n_str (by decide +kernel) rfl) pa_nil))) pa_nil)))))))) (pss_cons (ps_set (i := 2) sc__law_bent.nd rfl (Or.inl rfl) (pe_lst (pa_cons pe_non (pa_cons pe_int (pa_cons pe_str (pa_cons pe_str (pa_cons (pe_tup pa_nil) pa_nil)))))))
      (pss_cons (ps_if (pt_val (pe_callB call_isi (by rfl) T.n_isinstance (by decide +kernel) (pa_cons (pv 1) (pa_cons (pe_bltn (v := .ty "int") (by rfl) T.n_int (by decide +kernel) rfl) pa_nil)))) (pss_one (ps_set (i := 2) sc__law_bent.nd rfl (Or.inl rfl) (pe_op op_cat (pv 2) (pe_lst (pa_cons (pe_op op_add (pv 1) pe_int) (pa_cons (pe_op op_sub (pv 1) pe_int) (pa_cons (pe_un un_neg (pv 1)) (pa_cons (pe_callTy call_str_V (by rfl) T.n_str (by decide +kernel) (pa_cons (pv 1) pa_nil)) pa_nil)))))))) pss_nil)
      (pss_one (ps_ret (pe_cg G__law_of (hr.mono (by first | decide | omega)) hG (by rfl) T.g__law_of T.F__law_of.kp T.b__law_of pass0 (pa_cons (pv 0) (pa_cons (pv 2) pa_nil))))))) pss_nil)
      (pss_cons (ps_if (PW.pt (pw_or (pt_not (pt_val (pe_callB call_isi (by rfl) T.n_isinstance (by decide +kernel) (pa_cons (pv 1) (pa_cons (pe_bltn (v := .ty "tuple") (by rfl) T.n_tuple (by decide +kernel) rfl) pa_nil))))) (pw_or1 (pt_cmpR (op_eqD hr.units) (pv 1) (pe_tup pa_nil) (nomark _))))) (pss_one (ps_ret (pe_cg G__law_of (hr.mono (by first | decide | omega)) hG (by rfl) T.g__law_of T.F__law_of.kp T.b__law_of pass0 (pa_cons (pv 0) (pa_cons (pe_lst (pa_cons (pe_tup (pa_cons (pe_tup pa_nil) pa_nil)) (pa_cons pe_non (pa_cons (pe_tup (pa_cons pe_int pa_nil)) (pa_cons (pe_lst pa_nil) pa_nil))))) pa_nil))))) pss_nil)
      (pss_cons (ps_par (i := 3) (j := 4) (by rfl) sc__law_bent.nd rfl rfl (by decide) rfl rfl (pa_cons (pe_cg G__law_take (hr.mono (by first | decide | omega)) hG (by rfl) T.g__law_take T.F__law_take.kp T.b__law_take pass0 (pa_cons (pv 0) (pa_cons (pe_callB call_len_seq (by rfl) T.n_len PySem.boot_len (pa_cons (pv 1) pa_nil)) pa_nil))) (pa_cons (pe_cg G__law_take (hr.mono (by first | decide | omega)) hG (by rfl) T.g__law_take T.F__law_take.kp T.b__law_take pass0 (pa_cons (pv 0) (pa_cons pe_int pa_nil))) pa_nil)) (by rfl))
      (pss_cons (ps_if (pt_cmpR op_eq (pv 4) pe_int (nomark _)) (pss_one (ps_ret (pe_op op_catA (pe_slice sl_tupA (pv 1) po_none (po_some (pv 3))) (pe_slice sl_tupA (pv 1) (po_some (pe_op op_add (pv 3) pe_int)) po_none)))) pss_nil)
      (pss_cons (ps_if (pt_cmpR op_eq (pv 4) pe_int (nomark _)) (pss_one (ps_ret (pe_op op_catA (pe_op op_catA (pe_slice sl_tupA (pv 1) po_none (po_some (pv 3))) (pe_tup (pa_cons (pe_ix ix_tup (pv 1) (pv 3) (fun _ _ => rfl)) pa_nil))) (pe_slice sl_tupA (pv 1) (po_some (pv 3)) po_none)))) pss_nil)
      (pss_cons (ps_if (pt_cmpR op_eq (pv 4) pe_int (nomark _)) (pss_one (ps_ret (pe_revT (pv 1)))) pss_nil)
      (pss_one (ps_ret (pe_op op_catA (pe_op op_catA (pe_slice sl_tupA (pv 1) po_none (po_some (pv 3))) (pe_tup (pa_cons (pe_cg G__law_bent (hr.mono (by first | decide | omega)) hG (by rfl) T.g__law_bent T.F__law_bent.kp T.b__law_bent pass0 (pa_cons (pv 0) (pa_cons (pe_ix ix_tup (pv 1) (pv 3) (fun _ _ => rfl)) pa_nil))) pa_nil))) (pe_slice sl_tupA (pv 1) (po_some (pe_op op_add (pv 3) pe_int)) po_none)))))))))), ?_⟩
    have tI : TyX K H (.int z) (.type "int") := .base (.int z)
    refine ⟨_, rfl, _, .ty "bool", _, _, _, rfl, .ty _, .base (.int z), (by rfl), _, rfl, ?_⟩
    refine ite2 (fun e => absurd e (by decide)) fun _ => ?_
    refine ⟨_, rfl, rfl, _, rfl, ?_⟩
    refine ite2 (fun e => absurd (of_decide_eq_true e) (fun y => by cases y)) fun _ => ?_
    refine ⟨_, rfl, (by show 2 ≤ sizeLine; decide), fun t ht => ?_⟩
    have s1 := same_upd (o := .tup [.ty "int", .ty "str"]) ht
    refine ⟨_, t, _, _, _, true, rfl, upd_same, .cons (.ty _) (.cons (.ty _) .nil), .base (.int z), (by rfl), _, rfl, ite2 (fun _ => ?_) fun e => absurd rfl e⟩
    refine ⟨(by show 0 ≤ sizeLine; decide), fun t1 h1 => ?_⟩
    have s2 := s1.trans (same_upd (o := .tup []) h1)
    have e1 : (upd (upd H t (.tup [.ty "int", .ty "str"])) t1 (.tup [])) t1 = some (.tup []) := upd_same
    generalize (upd (upd H t (.tup [.ty "int", .ty "str"])) t1 (.tup [])) = H1 at s2 e1 ⊢
    refine ⟨(by show 5 ≤ sizeLine; decide), fun l1 hl1 => ?_⟩
    have s3 := s2.trans (same_upd (o := .lst [.non, .int 0, .str "p", .str "q", .ref t1]) hl1)
    have e2 : (upd H1 l1 (.lst [.non, .int 0, .str "p", .str "q", .ref t1])) l1 = some (.lst [.non, .int 0, .str "p", .str "q", .ref t1]) := upd_same
    have e1 : (upd H1 l1 (.lst [.non, .int 0, .str "p", .str "q", .ref t1])) t1 = some (.tup []) := same_upd hl1 _ _ e1
    generalize (upd H1 l1 (.lst [.non, .int 0, .str "p", .str "q", .ref t1])) = H2 at s3 e1 e2 ⊢
    refine ⟨_, rfl, _, .ty "int", _, _, _, rfl, .ty _, .base (.int z), (by rfl), _, rfl, ?_⟩
    refine ite2 (fun _ => ?_) fun e => absurd (by decide) e
    refine ⟨_, rfl, _, rfl, _, _, rfl, rfl, _, rfl, _, _, rfl, rfl, _, rfl, _, rfl, _, rfl, _, rfl, .inl ⟨z, rfl, int_show (by omega), (by show 4 ≤ sizeLine; decide), fun l2 hl2 => ?_⟩⟩
    have s4 := s3.trans (same_upd (o := .lst [.int (z + 1), .int (z - 1), .int (-z), .str (toString z)]) hl2)
    have k4 := same_upd (o := .lst [.int (z + 1), .int (z - 1), .int (-z), .str (toString z)]) hl2
    refine ⟨l1, l2, _, _, rfl, rfl, k4 _ _ e2, upd_same, (by show 5 + 4 ≤ sizeLine; decide), fun l3 hl3 => ?_⟩
    have s5 := fun o => s4.trans (same_upd (o := o) hl3)
    have k5 := fun o => k4.trans (same_upd (o := o) hl3)
    refine ⟨_, rfl, _, rfl, p, l3, _, n, rfl, hp.same (s5 _), by omega, (hp.same s4).ne hl3, SqL.of upd_same, List.cons_ne_nil _ _, (by show 9 < 2 ^ 24; decide), fun x H6 hx b6 hp6 => ?_⟩
    refine q x H6 ?_ ((But.of (s5 _)).trans b6) hp6
    have kt := (hp.same (s5 (.lst ([.non, .int 0, .str "p", .str "q", .ref t1] ++ [.int (z + 1), .int (z - 1), .int (-z), .str (toString z)])))).kt b6 _ _ (k5 _ _ _ e1)
    have hx2 : x ∈ ([.non, .int 0, .str "p", .str "q", .ref t1, .int (z + 1), .int (z - 1), .int (-z), .str (toString z)] : List V) := hx
    simp only [List.mem_cons, List.not_mem_nil, or_false] at hx2
    rcases hx2 with rfl | rfl | rfl | rfl | rfl | rfl | rfl | rfl | rfl
    · exact .non
    · exact .int _
    · exact .str _
    · exact .str _
    · exact .tup kt
    · exact .int _
    · exact .int _
    · exact .int _
    · exact .str _
theorem ok_bent (T : Txt K mg A D) : FnG P w K mg base CX0 4 (A 27) (D 27) ["pot", "value"] spBent := by
  have G__law_of := ok_of (P := P) (w := w) (base := base) T
  have G__law_take := ok_take (P := P) (w := w) (base := base) T
  have G__law_bent := ok_bentI (P := P) (w := w) (base := base) T
  refine def_ok0 T.F__law_bent sc__law_bent (fun vs H Q E h => ?_) (fun cdv Ar outer s H vs Q E hr hG h => ?_)
  · obtain ⟨p, a, n, m, f, rfl, _⟩ := h; rfl
  · obtain ⟨p, a, n, m, f, rfl, hp, hn, ha, m1, m4, bd, q⟩ := h
    refine ⟨_, (pss_cons (ps_if (PW.pt (pw_or (pt_val (pe_callB call_isi (by rfl) T.n_isinstance (by decide +kernel) (pa_cons (pv 1) (pa_cons (pe_bltn (v := .ty "bool") (by rfl) T.n_bool (by decide +kernel) rfl) pa_nil)))) (pw_or (pt_cmpR op_isN (pv 1) pe_non (nomark _)) (pw_or1 (pt_val (pe_callB call_isiT (by rfl) T.n_isinstance (by decide +kernel) (pa_cons (pv 1) (pa_cons (pe_tup (pa_cons (pe_bltn (v := .ty "int") (by rfl) T.n_int (by decide +kernel) rfl) (pa_cons (pe_bltn (v := .ty "str") (by rfl) T.n_str (by decide +kernel) rfl) pa_nil))) pa_nil)))))))) (pss_cons (ps_set (i := 2) sc__law_bent.nd rfl (Or.inl rfl) (pe_lst (pa_cons pe_non (pa_cons pe_int (pa_cons pe_str (pa_cons pe_str (pa_cons (pe_tup pa_nil) pa_nil)))))))
      (pss_cons (ps_if (pt_val (pe_callB call_isi (by rfl) T.n_isinstance (by decide +kernel) (pa_cons (pv 1) (pa_cons (pe_bltn (v := .ty "int") (by rfl) T.n_int (by decide +kernel) rfl) pa_nil)))) (pss_one (ps_set (i := 2) sc__law_bent.nd rfl (Or.inl rfl) (pe_op op_cat (pv 2) (pe_lst (pa_cons (pe_op op_add (pv 1) pe_int) (pa_cons (pe_op op_sub (pv 1) pe_int) (pa_cons (pe_un un_neg (pv 1)) (pa_cons (pe_callTy call_str_V (by rfl) T.n_str (by decide +kernel) (pa_cons (pv 1) pa_nil)) pa_nil)))))))) pss_nil)
      (pss_one (ps_ret (pe_cg G__law_of (hr.mono (by first | decide | omega)) hG (by rfl) T.g__law_of T.F__law_of.kp T.b__law_of pass0 (pa_cons (pv 0) (pa_cons (pv 2) pa_nil))))))) pss_nil)
      (pss_cons (ps_if (PW.pt (pw_or (pt_not (pt_val (pe_callB call_isi (by rfl) T.n_isinstance (by decide +kernel) (pa_cons (pv 1) (pa_cons (pe_bltn (v := .ty "tuple") (by rfl) T.n_tuple (by decide +kernel) rfl) pa_nil))))) (pw_or1 (pt_cmpR (op_eqD hr.units) (pv 1) (pe_tup pa_nil) (nomark _))))) (pss_one (ps_ret (pe_cg G__law_of (hr.mono (by first | decide | omega)) hG (by rfl) T.g__law_of T.F__law_of.kp T.b__law_of pass0 (pa_cons (pv 0) (pa_cons (pe_lst (pa_cons (pe_tup (pa_cons (pe_tup pa_nil) pa_nil)) (pa_cons pe_non (pa_cons (pe_tup (pa_cons pe_int pa_nil)) (pa_cons (pe_lst pa_nil) pa_nil))))) pa_nil))))) pss_nil)
      (pss_cons (ps_par (i := 3) (j := 4) (by rfl) sc__law_bent.nd rfl rfl (by decide) rfl rfl (pa_cons (pe_cg G__law_take (hr.mono (by first | decide | omega)) hG (by rfl) T.g__law_take T.F__law_take.kp T.b__law_take pass0 (pa_cons (pv 0) (pa_cons (pe_callB call_len_seq (by rfl) T.n_len PySem.boot_len (pa_cons (pv 1) pa_nil)) pa_nil))) (pa_cons (pe_cg G__law_take (hr.mono (by first | decide | omega)) hG (by rfl) T.g__law_take T.F__law_take.kp T.b__law_take pass0 (pa_cons (pv 0) (pa_cons pe_int pa_nil))) pa_nil)) (by rfl))
      (pss_cons (ps_if (pt_cmpR op_eq (pv 4) pe_int (nomark _)) (pss_one (ps_ret (pe_op op_catA (pe_slice sl_tupA (pv 1) po_none (po_some (pv 3))) (pe_slice sl_tupA (pv 1) (po_some (pe_op op_add (pv 3) pe_int)) po_none)))) pss_nil)
      (pss_cons (ps_if (pt_cmpR op_eq (pv 4) pe_int (nomark _)) (pss_one (ps_ret (pe_op op_catA (pe_op op_catA (pe_slice sl_tupA (pv 1) po_none (po_some (pv 3))) (pe_tup (pa_cons (pe_ix ix_tup (pv 1) (pv 3) (fun _ _ => rfl)) pa_nil))) (pe_slice sl_tupA (pv 1) (po_some (pv 3)) po_none)))) pss_nil)
      (pss_cons (ps_if (pt_cmpR op_eq (pv 4) pe_int (nomark _)) (pss_one (ps_ret (pe_revT (pv 1)))) pss_nil)
      (pss_one (ps_ret (pe_op op_catA (pe_op op_catA (pe_slice sl_tupA (pv 1) po_none (po_some (pv 3))) (pe_tup (pa_cons (pe_cg G__law_bent (hr.mono (by first | decide | omega)) hG (by rfl) T.g__law_bent T.F__law_bent.kp T.b__law_bent pass0 (pa_cons (pv 0) (pa_cons (pe_ix ix_tup (pv 1) (pv 3) (fun _ _ => rfl)) pa_nil))) pa_nil))) (pe_slice sl_tupA (pv 1) (po_some (pe_op op_add (pv 3) pe_int)) po_none)))))))))), ?_⟩
    have mm : m * m ≤ 16 := Nat.mul_le_mul m4 m4
    have m0 : 1 ≤ m * m := Nat.mul_le_mul m1 m1
    have dv : ∀ x y : Int, decide (V.int x = V.int y) = decide (x = y) := fun x y => decide_eq_decide.mpr ⟨V.int.inj, fun y => by rw [y]⟩
    refine ⟨_, rfl, _, .ty "bool", _, _, _, rfl, .ty _, .base (.tup ha), (by rfl), _, rfl, ?_⟩
    refine ite2 (fun e => absurd e (by decide)) fun _ => ?_
    refine ⟨_, rfl, rfl, _, rfl, ?_⟩
    refine ite2 (fun e => absurd (of_decide_eq_true e) (fun y => by cases y)) fun _ => ?_
    refine ⟨_, rfl, (by show 2 ≤ sizeLine; decide), fun t ht => ?_⟩
    have s1 := same_upd (o := .tup [.ty "int", .ty "str"]) ht
    have ha1 := s1 _ _ ha
    refine ⟨_, t, _, _, _, false, rfl, upd_same, .cons (.ty _) (.cons (.ty _) .nil), .base (.tup ha1), (by rfl), _, rfl, ite2 (fun e => absurd e (by decide)) fun _ => ?_⟩
    generalize (upd H t (.tup [.ty "int", .ty "str"])) = H1 at s1 ha1 ⊢
    refine ⟨_, rfl, _, .ty "tuple", _, _, _, rfl, .ty _, .base (.tup ha1), (by rfl), _, rfl, ite2 (fun e => absurd e (by decide)) fun _ => ?_⟩
    refine ⟨_, rfl, (by show 0 ≤ sizeLine; decide), fun t1 ht1 => ?_⟩
    have s2 := s1.trans (same_upd (o := .tup []) ht1)
    have ha2 := same_upd (o := .tup []) ht1 _ _ ha1
    have e1 : (upd H1 t1 (.tup [])) t1 = some (.tup []) := upd_same
    generalize (upd H1 t1 (.tup [])) = H2 at s2 ha2 e1 ⊢
    have ne : PyData.eqv (.tuple (dI (ilist m f))) (.tuple (dI [])) = false := by
      rw [PyData.eqv, eqv_ints]
      refine decide_eq_false fun y => ?_
      have := congrArg List.length y
      unfold ilist at this
      rw [List.length_map, List.length_range] at this
      have h0 : ([] : List Int).length = 0 := rfl
      omega
    refine ⟨.tuple (dI (ilist m f)), .tuple (dI []), (td_tab ha2).dp, (TD.tup e1 .nil).dp, shaped_ints _, shaped_ints _, _, rfl, ?_⟩
    rw [ne]
    refine ite2 (fun e => absurd e (by decide)) fun _ => ?_
    have hp2 := hp.same s2
    refine ⟨_, rfl, _, rfl, a, _, rfl, .inr (SqT.of ha2), p, _, n, rfl, hp2, by omega, ?_, ?_, fun at0 H3 a0 a1 b3 hp3 => ?_⟩
    · rw [tab_len]; omega
    · rw [tab_len]; omega
    rw [tab_len] at a1
    obtain ⟨at1, rfl⟩ : ∃ k : Nat, at0 = k := ⟨at0.toNat, by omega⟩
    have al : at1 < m * m := by omega
    refine ⟨_, rfl, p, 7, n + 1, rfl, hp3, by omega, by decide, by decide, fun way H4 w0 w7 b4 hp4 => ?_⟩
    have ha4 := hp3.kt b4 _ _ (hp2.kt b3 _ _ ha2)
    have B4 := (But.of s2).trans (b3.trans b4)
    refine ⟨_, _, rfl, ?_⟩
    have cl : ∀ lo hi, (cutV (tab m f) lo hi).length ≤ 16 := fun lo hi => Nat.le_trans (cutV_length _ _ _) (by rw [tab_len]; exact mm)
    have kn : ∀ {H' : Hp} {lo hi}, ∀ y ∈ cutV (tab m f) lo hi, Known H' y := fun y hy => tab_known y (cut_mem hy)
    refine ⟨_, rfl, rfl, _, rfl, ite2 (fun e5 => ?_) (fun e5 => ?_)⟩
    · refine ⟨_, rfl, _, rfl, _, rfl, slA_of ha4 fun r1 H5 s5 h5 => ?_⟩
      refine ⟨_, rfl, _, rfl, _, _, rfl, rfl, _, rfl, ?_⟩
      dsimp only [tNoPart]
      refine slA_of (s5 _ _ ha4) fun r2 H6 s6 h6 => ?_
      refine catA_of (s6 _ _ h5) h6 (by have := cl none (some (at1 : Int)); have := cl (some ((at1 : Int) + 1)) none; rw [sizeLine_eq]; omega) fun r3 H7 s7 h7 => ?_
      have s47 := s5.trans (s6.trans s7)
      refine q _ _ H7 (.tup h7 (fun y hy => ?_) ?_) (B4.trans (But.of s47)) ((hp4.same s47).mono (by omega))
      · rcases List.mem_append.mp hy with hy | hy <;> exact kn y hy
      · rw [List.length_append]
        have := cl none (some (at1 : Int)); have := cl (some ((at1 : Int) + 1)) none; omega
    · refine ⟨_, rfl, rfl, _, rfl, ite2 (fun e6 => ?_) (fun e6 => ?_)⟩
      · refine ⟨_, rfl, _, rfl, _, rfl, slA_of ha4 fun r1 H5 s5 h5 => ?_⟩
        refine ⟨_, rfl, _, rfl, a, _, _, _, rfl, rfl, SqT.of (s5 _ _ ha4), tab_at al rfl, (by show 1 ≤ sizeLine; decide), fun t2 ht2 => ?_⟩
        have s6 := same_upd (o := .tup [.int (f at1)]) ht2
        have h6 : (upd H5 t2 (.tup [.int (f at1)])) t2 = some (.tup [.int (f at1)]) := upd_same
        refine catA_of (s6 _ _ h5) h6 (by have := cl none (some (at1 : Int)); rw [sizeLine_eq]; show _ + 1 ≤ _; omega) fun r3 H7 s7 h7 => ?_
        have s47 := s5.trans (s6.trans s7)
        refine ⟨_, rfl, _, rfl, _, rfl, ?_⟩
        dsimp only [tNoPart]
        refine slA_of (s47 _ _ ha4) fun r4 H8 s8 h8 => ?_
        refine catA_of (s8 _ _ h7) h8 (by have := cl none (some (at1 : Int)); have := cl (some (at1 : Int)) none; rw [sizeLine_eq, List.length_append]; show _ + 1 + _ ≤ _; omega) fun r5 H9 s9 h9 => ?_
        have s49 := s47.trans (s8.trans s9)
        refine q _ _ H9 (.tup h9 (fun y hy => ?_) ?_) (B4.trans (But.of s49)) ((hp4.same s49).mono (by omega))
        · rcases List.mem_append.mp hy with hy | hy
          · rcases List.mem_append.mp hy with hy | hy
            · exact kn y hy
            · rw [List.mem_singleton.mp hy]; exact .int _
          · exact kn y hy
        · rw [List.length_append, List.length_append]
          have := cl none (some (at1 : Int)); have := cl (some (at1 : Int)) none
          show _ + 1 + _ ≤ _; omega
      · refine ⟨_, rfl, rfl, _, rfl, ite2 (fun e7 => ?_) (fun e7 => ?_)⟩
        · refine ⟨_, rfl, a, _, rfl, SqT.of ha4, fun t2 ht2 => ?_⟩
          have s6 := same_upd (o := .tup (tab m f).reverse) ht2
          refine q _ _ _ (.tup upd_same (fun y hy => ?_) ?_) (B4.trans (But.of s6)) ((hp4.same s6).mono (by omega))
          · exact tab_known y (List.mem_reverse.mp hy)
          · rw [List.length_reverse, tab_len]; omega
        · refine ⟨_, rfl, _, rfl, _, rfl, slA_of ha4 fun r1 H5 s5 h5 => ?_⟩
          have hp5 := hp4.same s5
          refine ⟨_, rfl, _, rfl, _, rfl, a, _, _, _, rfl, rfl, SqT.of (s5 _ _ ha4), tab_at al rfl, p, n + 2, f at1, rfl, hp5, by omega, bd _ al, fun v H6 kv b6 hp6 => ⟨(by show 1 ≤ sizeLine; decide), fun t2 ht2 => ?_⟩⟩
          have h5b := hp5.kt b6 _ _ h5
          have ha6 := hp5.kt b6 _ _ (s5 _ _ ha4)
          have s7 := same_upd (o := .tup [v]) ht2
          have h6 : (upd H6 t2 (.tup [v])) t2 = some (.tup [v]) := upd_same
          refine catA_of (s7 _ _ h5b) h6 (by have := cl none (some (at1 : Int)); rw [sizeLine_eq]; show _ + 1 ≤ _; omega) fun r3 H8 s8 h8 => ?_
          have s78 := s7.trans s8
          refine ⟨_, rfl, _, rfl, _, _, rfl, rfl, _, rfl, ?_⟩
          dsimp only [tNoPart]
          refine slA_of (s78 _ _ ha6) fun r4 H9 s9 h9 => ?_
          refine catA_of (s9 _ _ h8) h9 (by have := cl none (some (at1 : Int)); have := cl (some ((at1 : Int) + 1)) none; rw [sizeLine_eq, List.length_append]; show _ + 1 + _ ≤ _; omega) fun r5 H10 s10 h10 => ?_
          have s710 := s78.trans (s9.trans s10)
          refine q _ _ H10 (.tup h10 (fun y hy => ?_) ?_) (B4.trans ((But.of s5).trans (b6.trans (But.of s710)))) ((hp6.same s710).mono (by omega))
          · rcases List.mem_append.mp hy with hy | hy
            · rcases List.mem_append.mp hy with hy | hy
              · exact kn y hy
              · rw [List.mem_singleton.mp hy]; exact kv.same s710
            · exact kn y hy
          · rw [List.length_append, List.length_append]
            have := cl none (some (at1 : Int)); have := cl (some ((at1 : Int) + 1)) none
            show _ + 1 + _ ≤ _; omega
end
end My

namespace My
open PySem PySem.Spec PyProof.Rows L2
theorem FnG.weak {P : Program} {w : World} {K : PySem.W.Frag} {mg : Str → Option Value} {base : Heap} {C : CXT} {k : Nat} {f : Addr} {fd : FuncData} {ps : List Str} {sp sp' : Sp} (F : FnG P w K mg base C k f fd ps sp) (h : ∀ vs H Q E, sp' vs H Q E → sp vs H Q E) : FnG P w K mg base C k f fd ps sp' :=
  ⟨fun vs H Q E z => F.len vs H Q E (h vs H Q E z), fun A outer s H args us vs Q E a b c d e z => F.run A outer s H args us vs Q E a b c d e (h vs H Q E z)⟩
/-! ### what a guard leaves -/
def badB (n : Nat) (F : Nat → Int) : Bool := (List.range n).any fun i => decide (fwF n n F (i * n + i) < 1)
theorem bad_iff {n : Nat} {F : Nat → Int} : badB n F = true ↔ ∃ i, i < n ∧ fwF n n F (i * n + i) < 1 := by
  unfold badB
  rw [List.any_eq_true]
  exact ⟨fun ⟨i, hi, z⟩ => ⟨i, List.mem_range.mp hi, of_decide_eq_true z⟩, fun ⟨i, hi, z⟩ => ⟨i, List.mem_range.mpr hi, decide_eq_true z⟩⟩
theorem good_of {n : Nat} {F : Nat → Int} (h : badB n F = false) : ∀ i, i < n → 1 ≤ fwF n n F (i * n + i) := fun i hi => Int.not_lt.mp fun z => by
  rw [bad_iff.mpr ⟨i, hi, z⟩] at h; cases h
theorem bad_no {n : Nat} {F : Nat → Int} (h : ∀ i, i < n → 1 ≤ fwF n n F (i * n + i)) : badB n F = false := Bool.eq_false_iff.mpr fun z => by
  obtain ⟨i, hi, lt⟩ := bad_iff.mp z
  have := h i hi; omega
def KeptAt (H : Hp) (kv : V) (n : Nat) (F : Nat → Int) : Prop := (badB n F = true ∧ kv = .non) ∨ (badB n F = false ∧ ∃ a, kv = .ref a ∧ H a = some (.tup (tab n (fwF n n F))))
def keptD (n : Nat) (F : Nat → Int) : PyData := if badB n F = true then .none else .tuple (dI (ilist n (fwF n n F)))
theorem KeptAt.same {H H' : Hp} {kv : V} {n : Nat} {F : Nat → Int} (h : KeptAt H kv n F) (s : Same H H') : KeptAt H' kv n F :=
  h.imp id fun ⟨b, a, e, k⟩ => ⟨b, a, e, s _ _ k⟩
theorem KeptAt.but {H H' : Hp} {p : Addr} {k : Nat} {kv : V} {n : Nat} {F : Nat → Int} (h : KeptAt H kv n F) (hp : PotAt H p k) (b : But p H H') : KeptAt H' kv n F :=
  h.imp id fun ⟨c, a, e, z⟩ => ⟨c, a, e, hp.kt b _ _ z⟩
def spWith2 : Sp := fun vs H Q _ => ∃ (v : V) (g : Addr) (n : Nat) (B : Int) (f : Nat → Int) (ps : List (Addr × GRow)), vs = [v, .ref g] ∧ ZnAt H v n B f ∧ B ≤ 4900 ∧ (∀ i, 0 < i → i < n → f (i * n + 0) = 1000000) ∧ GuardAt H g ps ∧ ps.length ≤ 1000 ∧ (∀ p ∈ ps, p.2.okFor n) ∧
  ∀ kv H', Same H H' → KeptAt H' kv n (guardsF n f (ps.map (·.2))) → Q kv H'
def spLKept2 : Sp := fun vs H Q _ => ∃ (a g : Addr) (n : Nat) (f : Nat → Int) (ps : List (Addr × GRow)), vs = [.ref a, .ref g] ∧ H a = some (.tup (tab n f)) ∧ GuardAt H g ps ∧ 2 ≤ n ∧ n ≤ 4 ∧ BdN (n * n) 25 f ∧
  (∀ p ∈ ps, p.2.okFor n) ∧ ∀ kv H', Same H H' → KeptAt H' kv n (guardsF n f (ps.map (·.2))) → Q kv H'
theorem guards_inZ {n : Nat} {x : Nat → Int} (x0 : x 0 = 0) : ∀ (ws : List GRow) (g : Nat → Int), (∀ w ∈ ws, w.okFor n) → (∀ r c, r < n → c < n → g (r * n + c) ≤ 1000000) → (InZ n (guardsF n g ws) x ↔ InZ n g x ∧ ∀ w ∈ ws, w.keeps (x (1 + w.k)) = true)
  | [], g, _, _ => ⟨fun h => ⟨h, fun w hw => by cases hw⟩, fun h => h.1⟩
  | w :: ws, g, ok, t => by
    have ow := ok w List.mem_cons_self
    have G : GB n g (guard1 n g w) := (GB.refl n g).guard ow
    have ih := guards_inZ x0 ws (guard1 n g w) (fun v hv => ok v (List.mem_cons_of_mem _ hv)) fun r c hr hc => Int.le_trans (G.le _) (t r c hr hc)
    show InZ n (guardsF n (guard1 n g w) ws) x ↔ _
    rw [ih, inZ_guard ow x0 t]
    constructor
    · rintro ⟨⟨a, b⟩, c⟩
      refine ⟨a, fun v hv => ?_⟩
      rcases List.mem_cons.mp hv with rfl | hv
      · exact b
      · exact c v hv
    · rintro ⟨a, b⟩
      exact ⟨⟨a, b w List.mem_cons_self⟩, fun v hv => b v (List.mem_cons_of_mem _ hv)⟩
theorem guards_le {n : Nat} {f : Nat → Int} {ws : List GRow} (ok : ∀ w ∈ ws, w.okFor n) (t : ∀ r c, r < n → c < n → f (r * n + c) ≤ 1000000) : ∀ r c, r < n → c < n → guardsF n f ws (r * n + c) ≤ 1000000 := fun r c hr hc =>
  Int.le_trans ((guards_gb ws f (GB.refl n f) ok).le _) (t r c hr hc)
/-- values are in what a guard leaves -/
theorem kept_in {n : Nat} {f x : Nat → Int} {ws : List GRow} (x0 : x 0 = 0) (ok : ∀ w ∈ ws, w.okFor n) (t : ∀ r c, r < n → c < n → f (r * n + c) ≤ 1000000) :
    inB n (fwF n n (guardsF n f ws)) x = ((ws.all fun w => w.keeps (x (1 + w.k))) && inB n f x) := by
  rw [Bool.eq_iff_iff, Bool.and_eq_true, inB_iff, inB_iff, List.all_eq_true, inZ_fw_iff (guards_le ok t), guards_inZ x0 ws f ok t]
  exact And.comm
theorem bad_in {n : Nat} {f x : Nat → Int} {ws : List GRow} (x0 : x 0 = 0) (ok : ∀ w ∈ ws, w.okFor n) (t : ∀ r c, r < n → c < n → f (r * n + c) ≤ 1000000) (b : badB n (guardsF n f ws) = true) :
    ((ws.all fun w => w.keeps (x (1 + w.k))) && inB n f x) = false := by
  rw [← kept_in x0 ok t]
  refine Bool.eq_false_iff.mpr fun z => ?_
  obtain ⟨i, hi, lt⟩ := bad_iff.mp b
  exact inZ_diag hi lt (inB_iff.mp z)
theorem xI_fs (fs : List Fv) : xI (fs.map (·.x)) = xOf fs := by
  funext i
  cases i with
  | zero => rfl
  | succ i =>
    unfold xI xOf
    rw [List.getD_eq_getElem?_getD, List.getElem?_cons_succ, List.getElem?_map]
/-! ### as text -/
theorem ilist_small {n : Nat} {f : Nat → Int} (bd : BdN (n * n) 25 f) : ∀ z ∈ ilist n f, z.natAbs < 10 ^ 10 := fun z hz => by
  unfold ilist at hz
  obtain ⟨i, hi, rfl⟩ := List.mem_map.mp hz
  exact Nat.lt_trans (bd i (List.mem_range.mp hi)) (by decide)
structure RepD (K : PySem.W.Frag) (H : Hp) (x : V) (d : PyData) : Prop where
  dp : Dp K H x d
  sh : d.showable = true
  nd : d.hasDict = false
  dep : d.depth ≤ 60
  len : d.shown.length ≤ sizeLine
  lg : ∀ i, d = .int i → i.natAbs.log2 < 1920
theorem rd_tab {K : PySem.W.Frag} {H : Hp} {a : Addr} {n : Nat} {f : Nat → Int} (h : H a = some (.tup (tab n f))) (n4 : n ≤ 4) (bd : BdN (n * n) 25 f) : RepD K H (.ref a) (.tuple (dI (ilist n f))) := by
  have l := Nat.mul_le_mul n4 n4
  obtain ⟨s1, s2⟩ := show_ints _ (ilist_small bd)
  obtain ⟨s3, s4⟩ := sum_ints _ (ilist_small bd)
  refine ⟨(td_tab h).dp, by simp only [PyData.showable, s1], by simp only [PyData.hasDict, s2], by simp only [PyData.depth, depth_ints]; decide, ?_, fun i z => by cases z⟩
  rw [sizeLine_eq, show (PyData.tuple (dI (ilist n f))).shown = tupleText (PyData.shownAll (dI (ilist n f))) by simp only [PyData.shown]]
  have := tupleText_len_le (PyData.shownAll (dI (ilist n f)))
  have ll : (ilist n f).length = n * n := by unfold ilist; rw [List.length_map, List.length_range]
  omega
theorem rd_bl {K : PySem.W.Frag} {H : Hp} (b : Bool) : RepD K H (.bl b) (.bool b) := ⟨.bl b, rfl, rfl, by cases b <;> decide, by cases b <;> decide, fun i z => by cases z⟩
theorem rd_non {K : PySem.W.Frag} {H : Hp} : RepD K H .non .none := ⟨.non, rfl, rfl, by decide, by decide, fun i z => by cases z⟩
theorem rd_kept {K : PySem.W.Frag} {H : Hp} {kv : V} {n : Nat} {F : Nat → Int} (h : KeptAt H kv n F) (n4 : n ≤ 4) (bd : badB n F = false → BdN (n * n) 25 (fwF n n F)) : RepD K H kv (keptD n F) := by
  unfold keptD
  rcases h with ⟨b, rfl⟩ | ⟨b, a, rfl, ha⟩
  · rw [if_pos b]; exact rd_non
  · rw [if_neg (by rw [b]; decide)]; exact rd_tab ha n4 (bd b)
theorem not_ne {s : Str} : ¬ ((!decide (V.str s = V.str s)) = true) := by rw [decide_eq_true rfl]; decide
/-- _law_is_step_right(pot, zone, many) -/
def spStep : Sp := fun vs H Q _ => ∃ (p : Addr) (v : V) (m n : Nat) (f : Nat → Int), vs = [.ref p, v, .int (m : Int)] ∧ PotAt H p n ∧ n + 1000 < 2 ^ 50 ∧ 1 ≤ m ∧ m ≤ 3 ∧ ZnAt H v (m + 1) 4801 f ∧
  ∀ H', But p H H' → PotAt H' p (n + 100) → Q (.bl true) H'
section
variable {P : Program} {w : World} {K : PySem.W.Frag} {mg : Str → Option Value} {base : Heap} {A : Nat → Addr} {D : Nat → FuncData}
theorem ok_with2 (T : Txt K mg A D) : FnG P w K mg base CX0 6 (A 19) (D 19) ["zone", "guard"] spWith2 :=
  (ok_with T).weak fun vs H Q E ⟨v, g, n, B, f, ps, e, z, b, fl, hg, l, ok, q⟩ => ⟨v, g, n, B, f, ps, e, z, b, fl, hg, l, ok, fun x H' s => q _ _ s (.inl ⟨bad_iff.mpr x, rfl⟩), fun x a H' s _ hz => q _ _ s (.inr ⟨bad_no x, a, rfl, by
    obtain ⟨a', e', h', _⟩ := hz
    cases e'
    exact h'⟩)⟩
theorem ok_lkept2 (T : Txt K mg A D) : FnG P w K mg base CX0 3 (A 33) (D 33) ["zone", "guard"] spLKept2 :=
  (ok_lkept T).weak fun vs H Q E ⟨a, g, n, f, ps, e, ha, hg, n2, n4, bd, ok, q⟩ => ⟨a, g, n, f, ps, e, ha, hg, n2, n4, bd, ok, fun x H' s => q _ _ s (.inl ⟨bad_iff.mpr x, rfl⟩), fun x a H' s _ hz => q _ _ s (.inr ⟨bad_no x, a, rfl, hz⟩)⟩
theorem ok_step (T : Txt K mg A D) : FnG P w K mg base CX0 7 (A 42) (D 42) ["pot", "zone", "many"] spStep := by
  have G__law_take := ok_take (P := P) (w := w) (base := base) T
  have G__law_guard_of := ok_gof (P := P) (w := w) (base := base) T
  have G_later_zone := ok_later (P := P) (w := w) (base := base) T
  have G_zone_set := ok_set (P := P) (w := w) (base := base) T
  have G_zone_with := ok_with2 (P := P) (w := w) (base := base) T
  have G_is_zone := ok_zone (P := P) (w := w) (base := base) T
  have G_is_in_zone := ok_in (P := P) (w := w) (base := base) T
  have G__law_later := ok_llater (P := P) (w := w) (base := base) T
  have G__law_kept := ok_lkept2 (P := P) (w := w) (base := base) T
  have G__law_set := ok_lset (P := P) (w := w) (base := base) T
  have G__law_values := ok_vals (P := P) (w := w) (base := base) T
  have G__law_in := ok_lin (P := P) (w := w) (base := base) T
  have G__law_is_later := ok_islater (P := P) (w := w) (base := base) T
  have G__law_keeps := ok_keeps (P := P) (w := w) (base := base) T
  refine def_ok0 T.F__law_is_step_right sc__law_is_step_right (fun vs H Q E h => ?_) (fun cdv Ar outer s H vs Q E hr hG h => ?_)
  · obtain ⟨p, v, m, n, f, rfl, _⟩ := h; rfl
  · obtain ⟨p, v, m, n, f, rfl, hp, hn, m1, m3, zn, q⟩ := h
    refine ⟨_, (pss_cons (ps_par3 (i := 3) (j := 4) (l := 5) (by rfl) sc__law_is_step_right.nd rfl rfl rfl (by decide) (by decide) (by decide) rfl rfl rfl (pa_cons (pe_cgk G_later_zone (hr.mono (by first | decide | omega)) hG (by rfl) T.g_later_zone T.F_later_zone.kp T.kb_later_zone pass0 (pk_cons (pv 1) pk_nil)) (pa_cons (pe_callTy call_int1 (by rfl) T.n_int (by decide +kernel) (pa_cons (pe_cg G__law_take (hr.mono (by first | decide | omega)) hG (by rfl) T.g__law_take T.F__law_take.kp T.b__law_take pass0 (pa_cons (pv 0) (pa_cons (pv 2) pa_nil))) pa_nil)) (pa_cons (pe_cg G__law_guard_of (hr.mono (by first | decide | omega)) hG (by rfl) T.g__law_guard_of T.F__law_guard_of.kp T.b__law_guard_of pass0 (pa_cons (pv 0) (pa_cons (pv 2) pa_nil))) pa_nil))) (by rfl))
      (pss_cons (ps_par (i := 6) (j := 7) (by rfl) sc__law_is_step_right.nd rfl rfl (by decide) rfl rfl (pa_cons (pe_cgk G_zone_with (hr.mono (by first | decide | omega)) hG (by rfl) T.g_zone_with T.F_zone_with.kp T.kb_zone_with pass0 (pk_cons (pv 3) (pk_cons (pv 5) pk_nil))) (pa_cons (pe_cgk G_zone_set (hr.mono (by first | decide | omega)) hG (by rfl) T.g_zone_set T.F_zone_set.kp T.kb_zone_set pass0 (pk_cons (pv 1) (pk_cons (pe_tup (pa_cons (pv 4) pa_nil)) pk_nil))) pa_nil)) (by rfl))
      (pss_cons (ps_if (PW.pt (pw_or (pt_cmpR op_ne (pe_callB (id := "repr") (call_repK (K := K) hG hr.units) (by rfl) T.n_repr (by decide +kernel) (pa_cons (pv 3) pa_nil)) (pe_callB (id := "repr") (call_repK (K := K) hG hr.units) (by rfl) T.n_repr (by decide +kernel) (pa_cons (pe_cg G__law_later (hr.mono (by first | decide | omega)) hG (by rfl) T.g__law_later T.F__law_later.kp T.b__law_later pass0 (pa_cons (pv 1) pa_nil)) pa_nil)) (nomark _)) (pw_or1 (pt_cmpR op_ne (pe_callB (id := "repr") (call_repK (K := K) hG hr.units) (by rfl) T.n_repr (by decide +kernel) (pa_cons (pv 6) pa_nil)) (pe_callB (id := "repr") (call_repK (K := K) hG hr.units) (by rfl) T.n_repr (by decide +kernel) (pa_cons (pe_cg G__law_kept (hr.mono (by first | decide | omega)) hG (by rfl) T.g__law_kept T.F__law_kept.kp T.b__law_kept pass0 (pa_cons (pv 3) (pa_cons (pv 5) pa_nil))) pa_nil)) (nomark _))))) (pss_one (ps_ret pe_bl)) pss_nil)
      (pss_cons (ps_if (PW.pt (pw_or (pt_cmpR op_ne (pe_callB (id := "repr") (call_repK (K := K) hG hr.units) (by rfl) T.n_repr (by decide +kernel) (pa_cons (pv 7) pa_nil)) (pe_callB (id := "repr") (call_repK (K := K) hG hr.units) (by rfl) T.n_repr (by decide +kernel) (pa_cons (pe_cg G__law_set (hr.mono (by first | decide | omega)) hG (by rfl) T.g__law_set T.F__law_set.kp T.b__law_set pass0 (pa_cons (pv 1) (pa_cons (pv 4) pa_nil))) pa_nil)) (nomark _)) (pw_or1 (pt_not (pt_val (pe_callB (cr_all rfl) (by rfl) T.n_all (by decide +kernel) (pa_cons (pe_lc (own := [("one", 15)]) (g := gName 15) (tt := tYes) (by rfl) sc__law_is_step_right.nd (pi_tup (pe_tup (pa_cons (pv 1) (pa_cons (pv 3) (pa_cons (pv 7) pa_nil))))) (blkOk_by (own := [("one", 15)]) (N := ["pot", "zone", "many", "later", "clock", "guard", "kept", "put", "places", "due", "place", "lap", "values", "told", "fine", "one", "word", "number"]) (sc := defScope s__law_is_step_right) (by decide +kernel)) (fun _ _ _ _ _ => pg_name (i := 15) sc__law_is_step_right.nd rfl (by first | exact Or.inl rfl | exact Or.inr rfl | exact Or.inr (Or.inl rfl))) (fun _ _ _ _ _ => pts_nil) (fun _ _ _ _ _ => (pe_cmpR op_isBl (pe_cg G_is_zone (hr.mono (by first | decide | omega)) hG (by rfl) T.g_is_zone T.F_is_zone.kp T.b_is_zone pass0 (pa_cons (pv 15) pa_nil)) pe_bl (nomark _)))) pa_nil))))))) (pss_one (ps_ret pe_bl)) pss_nil)
      (pss_cons (ps_set (i := 8) sc__law_is_step_right.nd rfl (Or.inl rfl) (pe_callTy call_tuple_of (by rfl) T.n_tuple (by decide +kernel) (pa_cons (pe_lc (own := [("lap", 11)]) (g := gName 11) (tt := tYes) (by rfl) sc__law_is_step_right.nd (pi_range1 rfl T.n_range (pa_cons (pe_cg G__law_take (hr.mono (by first | decide | omega)) hG (by rfl) T.g__law_take T.F__law_take.kp T.b__law_take pass0 (pa_cons (pv 0) (pa_cons pe_int pa_nil))) pa_nil)) (blkOk_by (own := [("lap", 11)]) (N := ["pot", "zone", "many", "later", "clock", "guard", "kept", "put", "places", "due", "place", "lap", "values", "told", "fine", "one", "word", "number"]) (sc := defScope s__law_is_step_right) (by decide +kernel)) (fun _ _ _ _ _ => pg_name (i := 11) sc__law_is_step_right.nd rfl (by first | exact Or.inl rfl | exact Or.inr rfl | exact Or.inr (Or.inl rfl))) (fun _ _ _ _ _ => pts_nil) (fun _ _ _ _ _ => (pe_callTy call_int1 (by rfl) T.n_int (by decide +kernel) (pa_cons (pe_cg G__law_take (hr.mono (by first | decide | omega)) hG (by rfl) T.g__law_take T.F__law_take.kp T.b__law_take pass0 (pa_cons (pv 0) (pa_cons (pv 2) pa_nil))) pa_nil)))) pa_nil)))
      (pss_cons (ps_set (i := 9) sc__law_is_step_right.nd rfl (Or.inl rfl) (pv 1))
      (pss_cons (ps_for (by first | exact PassesOwn.never | exact PassesOwn.leaving | exact L2.passes_of rfl) rfl (pi_tup (pv 8)) (pg_name (i := 10) sc__law_is_step_right.nd rfl (Or.inl rfl)) (pss_one (ps_set (i := 9) sc__law_is_step_right.nd rfl (Or.inl rfl) (pe_cg G__law_set (hr.mono (by first | decide | omega)) hG (by rfl) T.g__law_set T.F__law_set.kp T.b__law_set pass0 (pa_cons (pv 9) (pa_cons (pv 10) pa_nil))))))
      (pss_cons (ps_if (pt_cmpR op_ne (pe_callB (id := "repr") (call_repK (K := K) hG hr.units) (by rfl) T.n_repr (by decide +kernel) (pa_cons (pe_cg G_zone_set (hr.mono (by first | decide | omega)) hG (by rfl) T.g_zone_set T.F_zone_set.kp T.b_zone_set pass0 (pa_cons (pv 1) (pa_cons (pv 8) pa_nil))) pa_nil)) (pe_callB (id := "repr") (call_repK (K := K) hG hr.units) (by rfl) T.n_repr (by decide +kernel) (pa_cons (pv 9) pa_nil)) (nomark _)) (pss_one (ps_ret pe_bl)) pss_nil)
      (pss_cons (ps_for (by first | exact PassesOwn.never | exact PassesOwn.leaving | exact L2.passes_of rfl) rfl (pi_range1 rfl T.n_range (pa_cons pe_int pa_nil)) (pg_name (i := 11) sc__law_is_step_right.nd rfl (Or.inl rfl)) (pss_cons (ps_asg (pe_cg G__law_values (hr.mono (by first | decide | omega)) hG (by rfl) T.g__law_values T.F__law_values.kp T.b__law_values pass0 (pa_cons (pv 0) (pa_cons (pv 2) pa_nil))) (pg_tup rfl (pgs_cons (pg_name (i := 12) sc__law_is_step_right.nd rfl (Or.inr rfl)) (pgs_cons (pg_name (i := 13) sc__law_is_step_right.nd rfl (Or.inl rfl)) pgs_nil))))
      (pss_cons (ps_if (pt_cmpR op_ne (pe_callB (id := "repr") (call_repK (K := K) hG hr.units) (by rfl) T.n_repr (by decide +kernel) (pa_cons (pe_cgk G_is_in_zone (hr.mono (by first | decide | omega)) hG (by rfl) T.g_is_in_zone T.F_is_in_zone.kp T.kb_is_in_zone pass0 (pk_cons (pv 1) (pk_cons (pv 13) pk_nil))) pa_nil)) (pe_callB (id := "repr") (call_repK (K := K) hG hr.units) (by rfl) T.n_repr (by decide +kernel) (pa_cons (pe_cg G__law_in (hr.mono (by first | decide | omega)) hG (by rfl) T.g__law_in T.F__law_in.kp T.b__law_in pass0 (pa_cons (pv 1) (pa_cons (pv 12) pa_nil))) pa_nil)) (nomark _)) (pss_one (ps_ret pe_bl)) pss_nil)
      (pss_cons (ps_if (pt_cmpR op_ne (pe_callB (id := "repr") (call_repK (K := K) hG hr.units) (by rfl) T.n_repr (by decide +kernel) (pa_cons (pe_cg G_is_in_zone (hr.mono (by first | decide | omega)) hG (by rfl) T.g_is_in_zone T.F_is_in_zone.kp T.b_is_in_zone pass0 (pa_cons (pv 3) (pa_cons (pv 13) pa_nil))) pa_nil)) (pe_callB (id := "repr") (call_repK (K := K) hG hr.units) (by rfl) T.n_repr (by decide +kernel) (pa_cons (pe_cg G__law_is_later (hr.mono (by first | decide | omega)) hG (by rfl) T.g__law_is_later T.F__law_is_later.kp T.b__law_is_later pass0 (pa_cons (pv 1) (pa_cons (pv 12) pa_nil))) pa_nil)) (nomark _)) (pss_one (ps_ret pe_bl)) pss_nil)
      (pss_cons (ps_set (i := 14) sc__law_is_step_right.nd rfl (Or.inl rfl) (pe_callB (cr_all rfl) (by rfl) T.n_all (by decide +kernel) (pa_cons (pe_lc (own := [("one", 15), ("word", 16), ("number", 17)]) (g := gTup K 3 (gCons (gName 15) (gCons (gName 16) (gCons (gName 17) gNil)))) (tt := tYes) (by rfl) sc__law_is_step_right.nd (pi_tup (pv 5)) (blkOk_by (own := [("one", 15), ("word", 16), ("number", 17)]) (N := ["pot", "zone", "many", "later", "clock", "guard", "kept", "put", "places", "due", "place", "lap", "values", "told", "fine", "one", "word", "number"]) (sc := defScope s__law_is_step_right) (by decide +kernel)) (fun _ _ _ _ _ => pg_tupX rfl (pgs_cons (pg_name (i := 15) sc__law_is_step_right.nd rfl (by first | exact Or.inl rfl | exact Or.inr rfl | exact Or.inr (Or.inl rfl))) (pgs_cons (pg_name (i := 16) sc__law_is_step_right.nd rfl (by first | exact Or.inl rfl | exact Or.inr rfl | exact Or.inr (Or.inl rfl))) (pgs_cons (pg_name (i := 17) sc__law_is_step_right.nd rfl (by first | exact Or.inl rfl | exact Or.inr rfl | exact Or.inr (Or.inl rfl))) pgs_nil)))) (fun _ _ _ _ _ => pts_nil) (fun _ _ _ _ _ => (pe_cg G__law_keeps (hr.mono (by first | decide | omega)) hG (by rfl) T.g__law_keeps T.F__law_keeps.kp T.b__law_keeps pass0 (pa_cons (pe_ix (ix_listX (K := K)) (pv 12) (pv 15) (fun _ _ => rfl)) (pa_cons (pv 16) (pa_cons (pv 17) pa_nil)))))) pa_nil)))
      (pss_cons (ps_if (PW.pt (pw_and (pt_cmpR op_notN (pv 6) pe_non (nomark _)) (pw_and1 (pt_cmpR op_ne (pe_cg G_is_in_zone (hr.mono (by first | decide | omega)) hG (by rfl) T.g_is_in_zone T.F_is_in_zone.kp T.b_is_in_zone pass0 (pa_cons (pv 6) (pa_cons (pv 13) pa_nil))) (pe_and (pv 14) (pe_one (pe_cg G__law_in (hr.mono (by first | decide | omega)) hG (by rfl) T.g__law_in T.F__law_in.kp T.b__law_in pass0 (pa_cons (pv 3) (pa_cons (pv 12) pa_nil))))) (nomark _))))) (pss_one (ps_ret pe_bl)) pss_nil)
      (pss_one (ps_if (PW.pt (pw_and (pt_cmpR op_isN (pv 6) pe_non (nomark _)) (pw_and (pt_val (pv 14)) (pw_and1 (pt_val (pe_cg G__law_in (hr.mono (by first | decide | omega)) hG (by rfl) T.g__law_in T.F__law_in.kp T.b__law_in pass0 (pa_cons (pv 3) (pa_cons (pv 12) pa_nil)))))))) (pss_one (ps_ret pe_bl)) pss_nil))))))))
      (pss_one (ps_ret pe_bl))))))))))), ?_⟩
    have n2 : 2 ≤ m + 1 := by omega
    have n4 : m + 1 ≤ 4 := by omega
    refine ⟨_, rfl, v, _, _, f, rfl, zn, fun a1 H1 s1 np1 z1 => ?_⟩
    obtain ⟨a, rfl, ha, zz⟩ := zn
    have zl := zz.later
    have hp1 := hp.same s1
    refine ⟨_, rfl, _, rfl, p, (m : Int), n, rfl, hp1, by omega, by omega, by omega, fun k0 H2 k1 k2 b2 hp2 => .inl ⟨_, rfl, ?_⟩⟩
    obtain ⟨k, rfl⟩ : ∃ k : Nat, k0 = k := ⟨k0.toNat, by omega⟩
    refine ⟨_, rfl, _, rfl, p, m, n + 1, rfl, hp2, by omega, m1, m3, fun g ps H3 b3 hp3 hg lp okp => ?_⟩
    have B3 := (But.of s1).trans (b2.trans b3)
    have ha3 := hp2.kt b3 _ _ (hp1.kt b2 _ _ (s1 _ _ ha))
    have z3 := (z1.but hp1 b2).but hp2 b3
    have lf := later_far (n := m + 1) (f := f) n2
    refine ⟨_, _, _, rfl, ?_⟩
    refine ⟨_, rfl, _, rfl, _, g, _, _, _, ps, rfl, z3, by omega, lf, hg, by omega, okp, fun kv H4 s4 kv4 => ?_⟩
    have ha4 := s4 _ _ ha3
    have z4 := z3.same s4
    have hg4 := hg.same s4
    have hp4 := hp3.same s4
    have B4 := B3.trans (But.of s4)
    have zn4 : ZnAt H4 (.ref a) (m + 1) 4801 f := ⟨a, rfl, ha4, zz⟩
    clear zn4 z3 hg ha3 B3 hp3 s4 b3 b2 hp2 hp1 z1 ha s1
    refine ⟨_, rfl, _, rfl, (by show 1 ≤ sizeLine; decide), fun t ht => ?_⟩
    have s5 := same_upd (o := .tup [.int (k : Int)]) ht
    refine ⟨.ref a, t, _, _, f, [k], rfl, ⟨a, rfl, s5 _ _ ha4, zz⟩, upd_same, (show 1 ≤ 1000 by decide), fun x hx => by rw [List.mem_singleton.mp hx]; omega, fun a2 H5 s6 np2 z5 => ?_⟩
    have s56 := s5.trans s6
    have ha5 := s56 _ _ ha4
    have z45 := z4.same s56
    have hg5 := hg4.same s56
    have hp5 := hp4.same s56
    have kv5 := kv4.same s56
    have B5 := B4.trans (But.of s56)
    clear z4 hg4 hp4 kv4 B4 ha4 s56 s5 s6 np1 np2 ht
    obtain ⟨ws, hws⟩ : ∃ ws, ws = ps.map (·.2) := ⟨_, rfl⟩
    obtain ⟨F, hF⟩ : ∃ F, F = guardsF (m + 1) (laterF (m + 1) f) ws := ⟨_, rfl⟩
    have okw : ∀ w ∈ ws, w.okFor (m + 1) := fun w hw => by
      rw [hws] at hw
      obtain ⟨p, hp, rfl⟩ := List.mem_map.mp hw
      exact okp p hp
    have tl : ∀ r c, r < m + 1 → c < m + 1 → laterF (m + 1) f (r * (m + 1) + c) ≤ 1000000 := fun r c hr hc => zl.le hr hc
    have zk : badB (m + 1) F = false → Zn (m + 1) 5401 (fwF (m + 1) (m + 1) F) := fun b => by
      rw [hF] at b ⊢
      exact kept_zn zl (by decide) lf (guards_gb ws _ (GB.refl _ _) okw) (good_of b)
    rw [← hws, ← hF] at kv5
    refine ⟨_, _, rfl, ?_⟩
    obtain ⟨a1', e1', ha1, _⟩ := z45
    cases e1'
    refine ⟨_, rfl, _, _, rfl, (rd_tab (K := K) ha1 n4 zl.bd).dp, (rd_tab (K := K) ha1 n4 zl.bd).sh, (rd_tab (K := K) ha1 n4 zl.bd).nd, (rd_tab (K := K) ha1 n4 zl.bd).dep, (rd_tab (K := K) ha1 n4 zl.bd).len, (rd_tab (K := K) ha1 n4 zl.bd).lg, _, rfl, a, _, f, rfl, ha5, n2, n4, fun r1 H6 s6 np6 h6 => ⟨_, _, rfl, (rd_tab (K := K) h6 n4 zl.bd).dp, (rd_tab (K := K) h6 n4 zl.bd).sh, (rd_tab (K := K) h6 n4 zl.bd).nd, (rd_tab (K := K) h6 n4 zl.bd).dep, (rd_tab (K := K) h6 n4 zl.bd).len, (rd_tab (K := K) h6 n4 zl.bd).lg, rfl, _, rfl, ite2 (fun e => absurd e not_ne) fun _ => ?_⟩⟩
    refine ⟨_, rfl, _, _, rfl, (rd_kept (K := K) (kv5.same s6) n4 fun b => (zk b).bd).dp, (rd_kept (K := K) (kv5.same s6) n4 fun b => (zk b).bd).sh, (rd_kept (K := K) (kv5.same s6) n4 fun b => (zk b).bd).nd, (rd_kept (K := K) (kv5.same s6) n4 fun b => (zk b).bd).dep, (rd_kept (K := K) (kv5.same s6) n4 fun b => (zk b).bd).len, (rd_kept (K := K) (kv5.same s6) n4 fun b => (zk b).bd).lg, _, rfl, _, rfl, a1, g, _, _, ps, rfl, s6 _ _ ha1, hg5.same s6, n2, n4, zl.bd, okp, fun kv2 H7 s7 k7 => ?_⟩
    rw [← hws, ← hF] at k7
    refine ⟨_, _, rfl, (rd_kept (K := K) k7 n4 fun b => (zk b).bd).dp, (rd_kept (K := K) k7 n4 fun b => (zk b).bd).sh, (rd_kept (K := K) k7 n4 fun b => (zk b).bd).nd, (rd_kept (K := K) k7 n4 fun b => (zk b).bd).dep, (rd_kept (K := K) k7 n4 fun b => (zk b).bd).len, (rd_kept (K := K) k7 n4 fun b => (zk b).bd).lg, rfl, _, rfl, ite2 (fun e => absurd e not_ne) fun _ => ?_⟩
    have s57 := s6.trans s7
    obtain ⟨a2', e2', ha2, zs2⟩ := z5
    cases e2'
    refine ⟨_, rfl, _, _, rfl, (rd_tab (K := K) (s57 _ _ ha2) n4 zs2.bd).dp, (rd_tab (K := K) (s57 _ _ ha2) n4 zs2.bd).sh, (rd_tab (K := K) (s57 _ _ ha2) n4 zs2.bd).nd, (rd_tab (K := K) (s57 _ _ ha2) n4 zs2.bd).dep, (rd_tab (K := K) (s57 _ _ ha2) n4 zs2.bd).len, (rd_tab (K := K) (s57 _ _ ha2) n4 zs2.bd).lg, _, rfl, _, rfl, a, _, f, k, rfl, s57 _ _ ha5, n2, n4, by omega, fun r2 H8 s8 np8 h8 => ⟨_, _, rfl, (rd_tab (K := K) h8 n4 zs2.bd).dp, (rd_tab (K := K) h8 n4 zs2.bd).sh, (rd_tab (K := K) h8 n4 zs2.bd).nd, (rd_tab (K := K) h8 n4 zs2.bd).dep, (rd_tab (K := K) h8 n4 zs2.bd).len, (rd_tab (K := K) h8 n4 zs2.bd).lg, rfl, _, rfl, ite2 (fun e => absurd e not_ne) fun _ => ?_⟩⟩
    have s58 := s57.trans s8
    refine ⟨_, rfl, _, rfl, _, rfl, (by show 3 ≤ sizeLine; decide), fun t3 ht3 => ?_⟩
    have s9 := same_upd (o := .tup [.ref a, .ref a1, .ref a2]) ht3
    have s59 := s58.trans s9
    refine ⟨t3, rfl, ⟨_, SqT.of upd_same⟩, fun D1 hD1 => lcW_tup (ys := [V.ref a, .ref a1, .ref a2]) (fun y => y) (fun _ => V.bl true) hD1 (by rw [List.map_id']; exact upd_same) (by rw [sizeLine_eq]; show 3 < _; decide) (fun y hy H10 Q10 s10 k10 => ?_) (fun H10 s10 h10 => ⟨D1, [V.ref a, .ref a1, .ref a2].map fun _ => true, rfl, SqL.of h10, _, rfl, ite2 (fun e => absurd e (by rw [all_true]; decide)) fun _ => ?_⟩)⟩
    · have s510 := s59.trans s10
      obtain ⟨B, g1, hy1⟩ : ∃ B g1, ZnAt H10 y (m + 1) B g1 := by
        simp only [List.mem_cons, List.not_mem_nil, or_false] at hy
        rcases hy with rfl | rfl | rfl
        · exact ⟨_, _, a, rfl, s510 _ _ ha5, zz⟩
        · exact ⟨_, _, a1, rfl, s510 _ _ ha1, zl⟩
        · exact ⟨_, _, a2, rfl, s510 _ _ ha2, zs2⟩
      refine ⟨_, rfl, y, _, rfl, hy1.zv, fun H11 s11 => ?_⟩
      obtain ⟨_, _, _, zy⟩ := hy1
      rw [zn_any zy]
      exact ⟨true, true, rfl, rfl, k10 _ s11⟩
    have s510 := s59.trans s10
    have ha10 := s510 _ _ ha5
    have ha110 := s510 _ _ ha1
    have hg10 := hg5.same s510
    have hp10 := hp5.same s510
    have kv10 := kv5.same s510
    have B10 := B5.trans (But.of s510)
    clear ha5 ha1 hg5 hp5 kv5 B5 s510 s10 s59 s58 s57 s9 s8 s7 s6 k7 h8 h10 hD1 ht3 np6 np8
    refine ⟨_, rfl, p, 3, n + 1 + 10, rfl, hp10, by omega, by decide, by decide, fun j H11 j0 j3 b11 hp11 => ⟨_, rfl, by omega, by omega, fun D2 hD2 => lc_range (lo := 0) (n := j.toNat) (vs := [11]) (fun i H' => ∃ xs : List Nat, xs.length = i ∧ (∀ x ∈ xs, x < m) ∧ H' D2 = some (.lst (xs.map fun (x : Nat) => V.int (x : Int))) ∧ PotAt H' p (n + 12 + i) ∧ But p H10 H') ⟨[], rfl, (fun x h => by cases h), upd_same, (hp11.same (same_upd hD2)).mono (by omega), b11.trans (But.of (same_upd hD2))⟩ ?_ ?_⟩⟩
    · rintro i H12 hi ⟨xs, lx, hx, hl, hp12, b12⟩
      have hDp : D2 ≠ p := hp11.ne hD2
      refine ⟨rfl, _, rfl, _, rfl, p, (m : Int), n + 12 + i, rfl, hp12, by omega, by omega, by omega, fun z H13 z0 z1 b13 hp13 => .inl ⟨z, rfl, ?_⟩⟩
      obtain ⟨y, rfl⟩ : ∃ y : Nat, z = y := ⟨z.toNat, by omega⟩
      refine ⟨_, b13 D2 _ hDp hl, ?_, xs ++ [y], by rw [List.length_append, lx]; rfl, fun x h => ?_, ?_, ?_, ?_⟩
      · rw [List.length_map, lx, sizeLine_eq]; omega
      · rcases List.mem_append.mp h with h | h
        · exact hx x h
        · rw [List.mem_singleton.mp h]; omega
      · rw [upd_same, List.map_append]; rfl
      · obtain ⟨o1, s1, c1, e1, e2⟩ := hp13
        exact ⟨o1, s1, c1, by rw [upd_ne hDp.symm]; exact e1, e2⟩
      · intro b o ne e
        have e11 := b11 b o ne e
        rw [upd_ne (ne_of_none e11 hD2)]
        exact (b12.trans b13) b o ne e
    rintro H12 ⟨xs, lx, hx, hl, hp12, b12⟩
    refine ⟨D2, _, rfl, .inl ⟨SqL.of hl, fun t4 ht4 => ?_⟩⟩
    have s13 := same_upd (o := .tup (xs.map fun (x : Nat) => V.int (x : Int))) ht4
    have h13 : (upd H12 t4 (.tup (xs.map fun (x : Nat) => V.int (x : Int)))) t4 = some (.tup (xs.map fun (x : Nat) => V.int (x : Int))) := upd_same
    generalize (upd H12 t4 (.tup (xs.map fun (x : Nat) => V.int (x : Int)))) = H13 at s13 h13 ⊢
    have b13 := b12.trans (But.of s13)
    have ha13 := hp10.kt b13 _ _ ha10
    have ha113 := hp10.kt b13 _ _ ha110
    have hg13 := hg10.but hp10 b13
    have kv13 := kv10.but hp10 b13
    have hp13 := hp12.same s13
    have B13 := B10.trans b13
    have lxs : xs.length ≤ 2 := by omega
    clear ha10 ha110 hg10 kv10 hp10 B10 b13 b12 hp12 hl s13 ht4 hp11 b11 hD2
    refine ⟨_, rfl, ?_⟩
    refine ⟨_, rfl, t4, rfl, ⟨_, SqT.of h13⟩, for_tup (K := K) (a := t4) (xs := xs.map fun (x : Nat) => V.int (x : Int)) (fun i σ H' => ∃ d u10, σ = [some (.ref p), some (.ref a), some (.int (m : Int)), some (.ref a1), some (.int (k : Int)), some (.ref g), some kv, some (.ref a2), some (.ref t4), some (.ref d), u10, none, none, none, none, none, none, none] ∧
      H' d = some (.tup (tab (m + 1) ((xs.take i).foldl (fun f k => setF (m + 1) (1 + k) f) f))) ∧ Same H13 H') ⟨a, _, rfl, ha13, Same.refl _⟩ (fun i σ H' _ ⟨_, _, _, _, s⟩ => SqT.of (s _ _ h13)) ?_ ?_⟩
    · rintro i y σ H14 hy ⟨d, u10, rfl, hd, s14⟩
      obtain ⟨c, hc, rfl⟩ : ∃ c, xs[i]? = some c ∧ y = V.int (c : Int) := by
        rw [List.getElem?_map] at hy
        cases e : xs[i]? with
        | none => rw [e] at hy; cases hy
        | some z => rw [e] at hy; exact ⟨z, rfl, (Option.some.inj hy).symm⟩
      have cl := hx c (List.mem_of_getElem? hc)
      refine ⟨_, rfl, _, rfl, d, _, _, c, rfl, hd, n2, n4, by omega, fun d2 H15 s15 np15 h15 => ?_⟩
      refine ⟨d2, _, rfl, ?_, s14.trans s15⟩
      rw [take_step1 hc, List.foldl_append]
      exact h15
    rintro σ H14 ⟨d, u10, rfl, hd, s14⟩
    rw [List.length_map, List.take_length] at hd
    refine ⟨_, rfl, _, rfl, .ref a, t4, _, _, f, xs, rfl, ⟨a, rfl, s14 _ _ ha13, zz⟩, s14 _ _ h13, by omega, fun x h => by have := hx x h; omega, fun a5 H15 s15 np15 z15 => ?_⟩
    obtain ⟨a5', e5', ha5, zs5⟩ := z15
    cases e5'
    have s1315 := s14.trans s15
    refine ⟨_, _, rfl, (rd_tab (K := K) ha5 n4 zs5.bd).dp, (rd_tab (K := K) ha5 n4 zs5.bd).sh, (rd_tab (K := K) ha5 n4 zs5.bd).nd, (rd_tab (K := K) ha5 n4 zs5.bd).dep, (rd_tab (K := K) ha5 n4 zs5.bd).len, (rd_tab (K := K) ha5 n4 zs5.bd).lg, _, rfl, _, _, rfl, (rd_tab (K := K) (s15 _ _ hd) n4 zs5.bd).dp, (rd_tab (K := K) (s15 _ _ hd) n4 zs5.bd).sh, (rd_tab (K := K) (s15 _ _ hd) n4 zs5.bd).nd, (rd_tab (K := K) (s15 _ _ hd) n4 zs5.bd).dep, (rd_tab (K := K) (s15 _ _ hd) n4 zs5.bd).len, (rd_tab (K := K) (s15 _ _ hd) n4 zs5.bd).lg, rfl, _, rfl, ite2 (fun e => absurd e not_ne) fun _ => ?_⟩
    have ha15 := s1315 _ _ ha13
    have ha115 := s1315 _ _ ha113
    have hg15 := hg13.same s1315
    have kv15 := kv13.same s1315
    have hp15 := hp13.same s1315
    have B15 := B13.trans (But.of s1315)
    clear ha13 ha113 hg13 kv13 hp13 B13 s1315 s15 s14 h13 hd ha5
    refine ⟨12, rfl, by decide, by decide, for_range (lo := 0) (n := 12) (fun i σ H' => ∃ u11 u12 u13 u14, σ = [some (.ref p), some (.ref a), some (.int (m : Int)), some (.ref a1), some (.int (k : Int)), some (.ref g), some kv, some (.ref a2), some (.ref t4), some (.ref d), u10, u11, u12, u13, u14, none, none, none] ∧
      PotAt H' p (n + 14 + 3 * i) ∧ But p H15 H') ⟨none, none, none, none, rfl, hp15.mono (by omega), But.refl _ _⟩ ?_ ?_⟩
    · rintro i σ H16 hi ⟨u11, u12, u13, u14, rfl, hp16, b16⟩
      refine ⟨_, rfl, _, rfl, p, m, _, rfl, hp16, by omega, m3, fun t9 l gg fs H17 b17 hp17 ht9 lnp hl hf lf9 => ⟨t9, _, rfl, SqT.of ht9, rfl, _, _, rfl, _, _, rfl, rfl, ?_⟩⟩
      have b17 := b16.trans b17
      have ha17 := hp15.kt b17 _ _ ha15
      have ha117 := hp15.kt b17 _ _ ha115
      have hg17 := hg15.but hp15 b17
      have kv17 := kv15.but hp15 b17
      clear ht9 hp16 b16
      have lfs : (fs.map (·.x)).length = m + 1 - 1 := by rw [List.length_map]; omega
      obtain ⟨zs, hzs⟩ : ∃ zs, zs = fs.map (·.x) := ⟨_, rfl⟩
      have hxz : xI zs = xOf fs := by rw [hzs]; exact xI_fs fs
      rw [← hzs] at hl lfs
      refine ⟨_, rfl, _, rfl, .ref a, gg, m + 1, _, f, fs, rfl, ⟨a, rfl, ha17, zz⟩, hf, by omega, fun H18 s18 => ?_⟩
      have r1 := rd_bl (K := K) (H := H18) (inB (m + 1) f (xOf fs))
      refine ⟨_, _, rfl, (r1).dp, (r1).sh, (r1).nd, (r1).dep, (r1).len, (r1).lg, ?_⟩
      refine ⟨_, rfl, _, rfl, a, l, m + 1, f, zs, rfl, s18 _ _ ha17, s18 _ _ hl, lfs, n2, n4, zz.bd, fun H19 s19 => ?_⟩
      have r2 := rd_bl (K := K) (H := H19) (inB (m + 1) f (xI zs))
      refine ⟨_, _, rfl, (r2).dp, (r2).sh, (r2).nd, (r2).dep, (r2).len, (r2).lg, ?_⟩
      rw [hxz]
      refine ⟨rfl, _, rfl, ite2 (fun e => absurd e not_ne) fun _ => ?_⟩
      have s19 := s18.trans s19
      refine ⟨_, rfl, _, rfl, .ref a1, gg, m + 1, _, _, fs, rfl, ⟨a1, rfl, s19 _ _ ha117, zl⟩, hf.same s19, by omega, fun H20 s20 => ?_⟩
      have r3 := rd_bl (K := K) (H := H20) (inB (m + 1) (laterF (m + 1) f) (xOf fs))
      refine ⟨_, _, rfl, (r3).dp, (r3).sh, (r3).nd, (r3).dep, (r3).len, (r3).lg, ?_⟩
      refine ⟨_, rfl, _, rfl, .ref a, l, m + 1, _, f, zs, rfl, ⟨a, rfl, s20 _ _ (s19 _ _ ha17), zz⟩, s20 _ _ (s19 _ _ hl), lfs, fun H21 s21 => ?_⟩
      have r4 := rd_bl (K := K) (H := H21) (inB (m + 1) (laterF (m + 1) f) (xI zs))
      refine ⟨_, _, rfl, (r4).dp, (r4).sh, (r4).nd, (r4).dep, (r4).len, (r4).lg, ?_⟩
      rw [hxz]
      refine ⟨rfl, _, rfl, ite2 (fun e => absurd e not_ne) fun _ => ?_⟩
      have s21 := s19.trans (s20.trans s21)
      have ha21 := s21 _ _ ha17
      have ha121 := s21 _ _ ha117
      have hg21 := hg17.same s21
      have kv21 := kv17.same s21
      have hp21 := hp17.same s21
      have hl21 := s21 _ _ hl
      have hf21 := hf.same s21
      have b21 := b17.trans (But.of s21)
      clear s18 s19 s20 s21 ha17 ha117 hg17 kv17 hp17 b17 hl hf
      refine ⟨_, rfl, g, rfl, ⟨_, SqT.of hg21.1⟩, fun D3 hD3 => lc_tup (K := K) (a := g) (xs := ps.map fun p => V.ref p.1) (vs := [15, 16, 17]) (fun i H' => Same H21 H' ∧ H' D3 = some (.lst ((ps.take i).map fun p => V.bl (p.2.keeps (xOf fs (1 + p.2.k)))))) ⟨same_upd hD3, upd_same⟩ (fun i H _ s => SqT.of (s.1 _ _ hg21.1)) ?_ ?_⟩
      · rintro j2 x H22 hx22 ⟨s22, h22⟩
        obtain ⟨⟨r, w⟩, hpi, rfl⟩ : ∃ p, ps[j2]? = some p ∧ x = V.ref p.1 := by
          rw [List.getElem?_map] at hx22
          cases e : ps[j2]? with
          | none => rw [e] at hx22; cases hx22
          | some z => rw [e] at hx22; exact ⟨z, rfl, (Option.some.inj hx22).symm⟩
        have mem := List.mem_of_getElem? hpi
        have hrow := s22 _ _ (hg21.2 _ mem)
        obtain ⟨o1, o2, o3⟩ := okp _ mem
        dsimp only at o1 o2 o3 hrow
        have at1 := xI_at lfs (i := 1 + w.k) (by omega) (by omega) (z := (w.k : Int)) (by omega)
        refine ⟨r, _, rfl, SqT.of hrow, rfl, _, _, rfl, _, _, rfl, _, _, rfl, rfl, rfl, ?_⟩
        refine ⟨_, rfl, _, rfl, l, _, _, _, rfl, rfl, SqL.of (s22 _ _ hl21), at1, _, rfl, _, rfl, xI zs (1 + w.k), w, rfl, by omega, ?_⟩
        refine ⟨_, h22, ?_, fun b o e => ?_, ?_⟩
        · rw [List.length_map, List.length_take, sizeLine_eq]; omega
        · rw [upd_ne (ne_of_none e hD3)]
          exact s22 b o e
        · rw [upd_same, take_step1 hpi, List.map_append, hxz]; rfl
      · rintro H22 ⟨s22, h22⟩
        rw [List.length_map, List.take_length] at h22
        refine ⟨D3, ps.map fun p => p.2.keeps (xOf fs (1 + p.2.k)), rfl, SqL.of (by rw [h22, List.map_map]; rfl), ?_⟩
        have ef : ((ps.map fun p => p.2.keeps (xOf fs (1 + p.2.k))).all id) = ws.all fun w => w.keeps (xOf fs (1 + w.k)) := by
          rw [hws, List.all_map, List.all_map]; rfl
        rw [ef]
        have fin : ∀ {H' : Hp}, Same H22 H' → PotAt H' p (n + 14 + 3 * (i + 1)) ∧ But p H15 H' := fun s => ⟨(hp21.same (s22.trans s)).mono (by omega), b21.trans (But.of (s22.trans s))⟩
        have ha122 := s22 _ _ ha121
        have hl22 := s22 _ _ hl21
        have hf22 := hf21.same s22
        have kin := kept_in (x := xOf fs) (ws := ws) (f := laterF (m + 1) f) rfl okw tl
        have bin := bad_in (x := xOf fs) (ws := ws) (f := laterF (m + 1) f) rfl okw tl
        rw [← hF] at kin bin
        generalize (ws.all fun w => w.keeps (xOf fs (1 + w.k))) = fine at kin bin ⊢
        rcases kv21.same s22 with ⟨b, rfl⟩ | ⟨b, r, rfl, hr9⟩
        · have bin := bin b
          refine ⟨_, rfl, rfl, _, rfl, ite2 (fun e => absurd e (by decide)) fun _ => ?_⟩
          refine ite2 (fun e => absurd e (by decide)) fun _ => ?_
          refine ⟨_, rfl, rfl, _, rfl, ite2 (fun _ => ?_) (fun e => absurd (decide_eq_true rfl) e)⟩
          refine ⟨_, rfl, fine, rfl, ?_⟩
          cases fine with
          | false =>
            refine ite2 (fun e => absurd e (by decide)) fun _ => ?_
            refine ite2 (fun e => absurd e (by decide)) fun _ => ?_
            exact ⟨_, _, _, _, rfl, fin (Same.refl _)⟩
          | true =>
            rw [Bool.true_and] at bin
            refine ite2 (fun _ => ?_) (fun e => absurd rfl e)
            refine ⟨_, rfl, _, rfl, a1, l, m + 1, _, zs, rfl, ha122, hl22, lfs, n2, n4, zl.bd, fun H24 s24 => ?_⟩
            rw [hxz, bin]
            refine ⟨_, rfl, ite2 (fun e => absurd e (by decide)) fun _ => ?_⟩
            exact ⟨_, _, _, _, rfl, fin s24⟩
        · refine ⟨_, rfl, rfl, _, rfl, ite2 (fun _ => ?_) (fun e => absurd (by rw [decide_eq_false (fun z => by cases z)]; rfl) e)⟩
          refine ⟨_, rfl, _, rfl, .ref r, gg, m + 1, 5401, _, fs, rfl, ⟨r, rfl, hr9, zk b⟩, hf22, by omega, fun H24 s24 => ?_⟩
          rw [kin]
          refine ⟨_, rfl, fine, rfl, ?_⟩
          cases fine with
          | false =>
            refine ite2 (fun e => absurd e (by decide)) fun _ => ?_
            refine ⟨rfl, _, rfl, ite2 (fun e => absurd e (by rw [Bool.false_and]; decide)) fun _ => ?_⟩
            refine ⟨_, rfl, rfl, _, rfl, ite2 (fun e => absurd (of_decide_eq_true e) (fun z => by cases z)) fun _ => ?_⟩
            refine ite2 (fun e => absurd e (by decide)) fun _ => ?_
            exact ⟨_, _, _, _, rfl, fin s24⟩
          | true =>
            refine ite2 (fun _ => ?_) (fun e => absurd rfl e)
            refine ⟨_, rfl, _, rfl, a1, l, m + 1, _, zs, rfl, s24 _ _ ha122, s24 _ _ hl22, lfs, n2, n4, zl.bd, fun H25 s25 => ?_⟩
            rw [hxz, Bool.true_and]
            refine ⟨rfl, _, rfl, ite2 (fun e => absurd e (by rw [decide_eq_true rfl]; decide)) fun _ => ?_⟩
            refine ⟨_, rfl, rfl, _, rfl, ite2 (fun e => absurd (of_decide_eq_true e) (fun z => by cases z)) fun _ => ?_⟩
            refine ite2 (fun e => absurd e (by decide)) fun _ => ?_
            exact ⟨_, _, _, _, rfl, fin (s24.trans s25)⟩
    · rintro σ H16 ⟨u11, u12, u13, u14, rfl, hp16, b16⟩
      exact q _ (B15.trans b16) (hp16.mono (by omega))
end
end My

namespace My
open PySem PySem.Spec PyProof.Rows L2
/-- _law_right(pot) -/
def spRight : Sp := fun vs H Q _ => ∃ (p : Addr) (n : Nat), vs = [.ref p] ∧ PotAt H p n ∧ n + 10000 < 2 ^ 50 ∧ ∀ H', But p H H' → PotAt H' p (n + 1000) → Q (.bl true) H'
/-- what may change: a list stays a list, all else stays -/
def Lk (H H' : Hp) : Prop := ∀ b o, H b = some o → H' b = some o ∨ ∃ xs ys, o = .lst xs ∧ H' b = some (.lst ys)
theorem Lk.same {H H' : Hp} (s : Same H H') : Lk H H' := fun b o e => .inl (s b o e)
theorem Lk.but {H H' : Hp} {p : Addr} {k k' : Nat} (hp : PotAt H p k) (hp' : PotAt H' p k') (b : But p H H') : Lk H H' := fun c o e => by
  by_cases z : c = p
  · subst z
    obtain ⟨_, _, _, h1, _⟩ := hp
    obtain ⟨_, _, _, h2, _⟩ := hp'
    rw [h1] at e
    cases e
    exact .inr ⟨_, _, rfl, h2⟩
  · exact .inl (b c o z e)
theorem Lk.upd {H : Hp} {D : Addr} {xs ys : List V} (h : H D = some (.lst xs)) : Lk H (upd H D (.lst ys)) := fun c o e => by
  by_cases z : c = D
  · subst z
    rw [h] at e
    cases e
    exact .inr ⟨_, _, rfl, upd_same⟩
  · exact .inl (by rw [upd_ne z]; exact e)
theorem Lk.tup {H H' : Hp} (l : Lk H H') {a : Addr} {xs : List V} (e : H a = some (.tup xs)) : H' a = some (.tup xs) := by
  rcases l _ _ e with h | ⟨_, _, h, _⟩
  · exact h
  · cases h
theorem Lk.dct {H H' : Hp} (l : Lk H H') {a : Addr} {xs : List (Key × V)} (e : H a = some (.dK xs)) : H' a = some (.dK xs) := by
  rcases l _ _ e with h | ⟨_, _, h, _⟩
  · exact h
  · cases h
theorem Lk.lst {H H' : Hp} (l : Lk H H') {a : Addr} {xs : List V} (e : H a = some (.lst xs)) : ∃ ys, H' a = some (.lst ys) := by
  rcases l _ _ e with h | ⟨_, _, _, h⟩
  · exact ⟨_, h⟩
  · exact ⟨_, h⟩
theorem Known.lk {H H' : Hp} (l : Lk H H') {v : V} (k : Known H v) : Known H' v := by
  cases k with
  | non => exact .non
  | bl b => exact .bl b
  | int i => exact .int i
  | str s => exact .str s
  | lst e => obtain ⟨_, h⟩ := l.lst e; exact .lst h
  | tup e => exact .tup (l.tup e)
  | dct e => exact .dct (l.dct e)
theorem NoTup.lk {H H' : Hp} (l : Lk H H') {v : V} (k : NoTup H v) : NoTup H' v := by
  cases k with
  | non => exact .non
  | bl b => exact .bl b
  | int i => exact .int i
  | str s => exact .str s
  | lst e => obtain ⟨_, h⟩ := l.lst e; exact .lst h
  | dct e => exact .dct (l.dct e)
theorem ZV.lk {H H' : Hp} (l : Lk H H') {v : V} {o : Option (List V)} (h : ZV H v o) : ZV H' v o := by
  cases h with
  | no h => exact .no (h.lk l)
  | tup h k n => exact .tup (l.tup h) (fun y hy => (k y hy).lk l) n
theorem ones_flat {m : Nat} (m1 : 1 ≤ m) (m3 : m ≤ 3) : (List.replicate (((m : Int) + 1) * ((m : Int) + 1)).toNat [V.int 1]).flatten = tab (m + 1) fun _ => 1 := by
  have c : m = 1 ∨ m = 2 ∨ m = 3 := by omega
  rcases c with rfl | rfl | rfl <;> rfl
section
variable {P : Program} {w : World} {K : PySem.W.Frag} {mg : Str → Option Value} {base : Heap} {A : Nat → Addr} {D : Nat → FuncData}
theorem ok_right (T : Txt K mg A D) : FnG P w K mg base CX0 8 (A 44) (D 44) ["pot"] spRight := by
  have G__law_take := ok_take (P := P) (w := w) (base := base) T
  have G_first_zone := ok_first (P := P) (w := w) (base := base) T
  have G_is_zone := ok_zone (P := P) (w := w) (base := base) T
  have G__law_drawn_zone := ok_drawn (P := P) (w := w) (base := base) T
  have G__law_is_step_right := ok_step (P := P) (w := w) (base := base) T
  have G__law_bent := ok_bent (P := P) (w := w) (base := base) T
  have G__law_odd := ok_odd (P := P) (w := w) (base := base) T
  have G__law_is_zone := ok_liszone (P := P) (w := w) (base := base) T
  refine def_ok0 T.F__law_right sc__law_right (fun vs H Q E h => ?_) (fun cdv Ar outer s H vs Q E hr hG h => ?_)
  · obtain ⟨p, n, rfl, _⟩ := h; rfl
  · obtain ⟨p, n, rfl, hp, hn, q⟩ := h
    refine ⟨_, (pss_cons (ps_set (i := 1) sc__law_right.nd rfl (Or.inl rfl) (pe_callTy call_int1 (by rfl) T.n_int (by decide +kernel) (pa_cons (pe_op op_add pe_int (pe_cg G__law_take (hr.mono (by first | decide | omega)) hG (by rfl) T.g__law_take T.F__law_take.kp T.b__law_take pass0 (pa_cons (pv 0) (pa_cons pe_int pa_nil)))) pa_nil)))
      (pss_cons (ps_if (pt_cmpR op_ne (pe_callB (id := "repr") (call_repK (K := K) hG hr.units) (by rfl) T.n_repr (by decide +kernel) (pa_cons (pe_cgk G_first_zone (hr.mono (by first | decide | omega)) hG (by rfl) T.g_first_zone T.F_first_zone.kp T.kb_first_zone pass0 (pk_cons (pv 1) pk_nil)) pa_nil)) (pe_callB (id := "repr") (call_repK (K := K) hG hr.units) (by rfl) T.n_repr (by decide +kernel) (pa_cons (pe_op op_repT (pe_tup (pa_cons pe_int pa_nil)) (pe_op op_mulW (pe_op op_add (pv 1) pe_int) (pe_op op_add (pv 1) pe_int))) pa_nil)) (nomark _)) (pss_one (ps_ret pe_bl)) pss_nil)
      (pss_cons (ps_set (i := 2) sc__law_right.nd rfl (Or.inr rfl) (pe_cg G__law_drawn_zone (hr.mono (by first | decide | omega)) hG (by rfl) T.g__law_drawn_zone T.F__law_drawn_zone.kp T.b__law_drawn_zone pass0 (pa_cons (pv 0) (pa_cons (pv 1) (pa_cons (pe_cg G__law_take (hr.mono (by first | decide | omega)) hG (by rfl) T.g__law_take T.F__law_take.kp T.b__law_take pass0 (pa_cons (pv 0) (pa_cons pe_int pa_nil))) pa_nil)))))
      (pss_cons (ps_if (pt_not (pt_val (pe_cg G__law_is_step_right (hr.mono (by first | decide | omega)) hG (by rfl) T.g__law_is_step_right T.F__law_is_step_right.kp T.b__law_is_step_right pass0 (pa_cons (pv 0) (pa_cons (pv 2) (pa_cons (pv 1) pa_nil)))))) (pss_one (ps_ret pe_bl)) pss_nil)
      (pss_cons (ps_set (i := 3) sc__law_right.nd rfl (Or.inl rfl) (pe_op op_cat (pe_lc (own := [("lap", 4)]) (g := gName 4) (tt := tYes) (by rfl) sc__law_right.nd (pi_range1 rfl T.n_range (pa_cons pe_int pa_nil)) (blkOk_by (own := [("lap", 4)]) (N := ["pot", "many", "zone", "some", "lap", "value"]) (sc := defScope s__law_right) (by decide +kernel)) (fun _ _ _ _ _ => pg_name (i := 4) sc__law_right.nd rfl (by first | exact Or.inl rfl | exact Or.inr rfl | exact Or.inr (Or.inl rfl))) (fun _ _ _ _ _ => pts_nil) (fun _ _ _ _ _ => (pe_cg G__law_bent (hr.mono (by first | decide | omega)) hG (by rfl) T.g__law_bent T.F__law_bent.kp T.b__law_bent pass0 (pa_cons (pv 0) (pa_cons (pv 2) pa_nil))))) (pe_lst (pa_cons (pe_op op_catA (pv 2) (pe_tup (pa_cons pe_int pa_nil))) (pa_cons (pe_callTy call_list_of (by rfl) T.n_list (by decide +kernel) (pa_cons (pv 2) pa_nil)) (pa_cons (pe_slice sl_tupA (pv 2) (po_some pe_int) po_none) (pa_cons (pe_tup pa_nil) (pa_cons (pe_cg G__law_odd (hr.mono (by first | decide | omega)) hG (by rfl) T.g__law_odd T.F__law_odd.kp T.b__law_odd pass0 (pa_cons (pv 0) pa_nil)) pa_nil))))))))
      (pss_one (ps_ret (pe_callB (cr_all rfl) (by rfl) T.n_all (by decide +kernel) (pa_cons (pe_lc (own := [("value", 5)]) (g := gName 5) (tt := tYes) (by rfl) sc__law_right.nd (pi_list (pv 3)) (blkOk_by (own := [("value", 5)]) (N := ["pot", "many", "zone", "some", "lap", "value"]) (sc := defScope s__law_right) (by decide +kernel)) (fun _ _ _ _ _ => pg_name (i := 5) sc__law_right.nd rfl (by first | exact Or.inl rfl | exact Or.inr rfl | exact Or.inr (Or.inl rfl))) (fun _ _ _ _ _ => pts_nil) (fun _ _ _ _ _ => (pe_cmpR op_eq (pe_callB (id := "repr") (call_repK (K := K) hG hr.units) (by rfl) T.n_repr (by decide +kernel) (pa_cons (pe_cgk G_is_zone (hr.mono (by first | decide | omega)) hG (by rfl) T.g_is_zone T.F_is_zone.kp T.kb_is_zone pass0 (pk_cons (pv 5) pk_nil)) pa_nil)) (pe_callB (id := "repr") (call_repK (K := K) hG hr.units) (by rfl) T.n_repr (by decide +kernel) (pa_cons (pe_cg G__law_is_zone (hr.mono (by first | decide | omega)) hG (by rfl) T.g__law_is_zone T.F__law_is_zone.kp T.b__law_is_zone pass0 (pa_cons (pv 5) pa_nil)) pa_nil)) (nomark _)))) pa_nil))))))))), ?_⟩
    refine ⟨_, rfl, p, 3, n, rfl, hp, by omega, by decide, by decide, fun j H1 j0 j3 b1 hp1 => ⟨_, _, rfl, rfl, .inl ⟨_, rfl, ?_⟩⟩⟩
    obtain ⟨m, hm⟩ : ∃ m : Nat, 1 + j = m := ⟨(1 + j).toNat, by omega⟩
    rw [hm]
    have m1 : 1 ≤ m := by omega
    have m3 : m ≤ 3 := by omega
    have n2 : 2 ≤ m + 1 := by omega
    have n4 : m + 1 ≤ 4 := by omega
    have b0 := (begin_zn m1 m3).bd
    refine ⟨_, rfl, m, rfl, m1, m3, fun z0 H2 s2 nz h2 => ?_⟩
    have r1 := rd_tab (K := K) h2 n4 b0
    refine ⟨_, _, rfl, (r1).dp, (r1).sh, (r1).nd, (r1).dep, (r1).len, (r1).lg, ?_⟩
    refine ⟨(by show 1 ≤ sizeLine; decide), fun t ht => ?_⟩
    have s3 := same_upd (o := .tup [.int 1]) ht
    have mw : CMulW ((m : Int) + 1) ((m : Int) + 1) := wide_mul (a := 20) (b := 20) (by omega) (by omega) (by decide) (by decide) (by decide)
    refine ⟨_, rfl, _, _, rfl, rfl, _, rfl, _, _, rfl, rfl, _, _, rfl, rfl, mw, ?_⟩
    refine ⟨t, _, _, rfl, rfl, SqT.of upd_same, by simp, ?_, ?_, by decide, fun t2 ht2 => ?_⟩
    · have c : m = 1 ∨ m = 2 ∨ m = 3 := by omega
      rcases c with e | e | e <;> rw [e] <;> decide
    · have c : m = 1 ∨ m = 2 ∨ m = 3 := by omega
      rcases c with e | e | e <;> rw [e] <;> decide
    rw [ones_flat m1 m3]
    have s4 := same_upd (o := .tup (tab (m + 1) fun _ => 1)) ht2
    have h4 : upd (upd H2 t (.tup [.int 1])) t2 (.tup (tab (m + 1) fun _ => 1)) t2 = some (.tup (tab (m + 1) fun _ => 1)) := upd_same
    have s14 := s2.trans (s3.trans s4)
    generalize upd (upd H2 t (.tup [.int 1])) t2 (.tup (tab (m + 1) fun _ => 1)) = H4 at s14 h4 ⊢
    have r2 := rd_tab (K := K) h4 n4 b0
    refine ⟨_, _, rfl, (r2).dp, (r2).sh, (r2).nd, (r2).dep, (r2).len, (r2).lg, rfl, _, rfl, ite2 (fun e => absurd e not_ne) fun _ => ?_⟩
    have hp4 := hp1.same s14
    have B4 := b1.trans (But.of s14)
    clear r1 r2 s3 s4 s2 ht ht2 h2 h4 nz b0
    refine ⟨_, rfl, _, rfl, _, rfl, p, 9, n + 1, rfl, hp4, by omega, by decide, by decide, fun l0 H5 l1 l2 b5 hp5 => ?_⟩
    obtain ⟨l, rfl⟩ : ∃ l : Nat, l0 = l := ⟨l0.toNat, by omega⟩
    refine ⟨p, m, l, n + 2, rfl, hp5, by omega, m1, m3, by omega, fun v f H6 b6 hp6 z6 => ?_⟩
    have B6 := (B4.trans b5).trans b6
    refine ⟨_, rfl, _, rfl, _, rfl, p, v, m, _, f, rfl, hp6, by omega, m1, m3, z6, fun H7 b7 hp7 => ⟨_, rfl, ?_⟩⟩
    refine ite2 (fun e => absurd e (by decide)) fun _ => ?_
    have z7 := z6.but hp6 b7
    have B7 := B6.trans b7
    clear z6 b7 hp6 b6 B6 b5 hp5 B4 hp4
    obtain ⟨a, rfl, ha7, zz⟩ := z7
    refine ⟨6, rfl, by decide, by decide, fun D1 hD1 => lc_range (lo := 0) (n := 6) (vs := [4]) (fun i H' => ∃ ys : List V, ys.length = i ∧ H' D1 = some (.lst ys) ∧ (∀ y ∈ ys, ∃ o, ZV H' y o) ∧ PotAt H' p (n + 400 + 3 * i) ∧ But p H7 H') ⟨[], rfl, upd_same, (fun y h => by cases h), (hp7.same (same_upd hD1)).mono (by omega), But.of (same_upd hD1)⟩ ?_ ?_⟩
    · rintro i H8 hi ⟨ys, ly, hl, hy, hp8, b8⟩
      have hDp : D1 ≠ p := hp7.ne hD1
      refine ⟨rfl, _, rfl, _, rfl, p, a, _, m + 1, f, rfl, hp8, by omega, hp7.kt b8 _ _ ha7, by omega, n4, zz.bd, fun v o H9 zv b9 hp9 => ?_⟩
      have hl9 := b9 D1 _ hDp hl
      have l9 := Lk.upd (ys := ys ++ [v]) hl9
      have l89 := Lk.but hp8 hp9 b9
      refine ⟨_, hl9, ?_, ys ++ [v], by rw [List.length_append, ly]; rfl, upd_same, fun y h => ?_, ?_, ?_⟩
      · rw [ly, sizeLine_eq]; omega
      · rcases List.mem_append.mp h with h | h
        · obtain ⟨o, z⟩ := hy y h
          exact ⟨o, (z.lk l89).lk l9⟩
        · rw [List.mem_singleton.mp h]
          exact ⟨_, zv.lk l9⟩
      · obtain ⟨o1, s1, c1, e1, e2⟩ := hp9.mono (show n + 400 + 3 * i + 3 ≤ n + 400 + 3 * (i + 1) by omega)
        exact ⟨o1, s1, c1, by rw [upd_ne hDp.symm]; exact e1, e2⟩
      · intro b o ne e
        rw [upd_ne (ne_of_none e hD1)]
        exact (b8.trans b9) b o ne e
    rintro H8 ⟨ys, ly, hl, hy, hp8, b8⟩
    have hDp : D1 ≠ p := hp7.ne hD1
    have ha8 := hp7.kt b8 _ _ ha7
    have B8 := B7.trans b8
    have tl : (tab (m + 1) f).length ≤ 16 := by rw [tab_len]; exact Nat.mul_le_mul n4 n4
    clear hp7 ha7 B7 b8 hD1
    refine ⟨_, rfl, (by show 1 ≤ sizeLine; decide), fun t9 ht9 => ?_⟩
    have s9 := same_upd (o := .tup [.int 1]) ht9
    refine catA_of (s9 _ _ ha8) (upd_same (o := .tup [.int 1])) (by rw [sizeLine_eq]; show _ + 1 ≤ _; omega) fun c1 H10 s10 h10 => ?_
    have s810 := s9.trans s10
    refine ⟨_, rfl, a, _, rfl, .inr (SqT.of (s810 _ _ ha8)), fun c2 hc2 => ?_⟩
    have s11 := same_upd (o := .lst (tab (m + 1) f)) hc2
    have h11 : upd H10 c2 (.lst (tab (m + 1) f)) c2 = some (.lst (tab (m + 1) f)) := upd_same
    generalize upd H10 c2 (.lst (tab (m + 1) f)) = H11 at s11 h11 ⊢
    have s811 := s810.trans s11
    refine ⟨_, rfl, _, rfl, ?_⟩
    dsimp only [tNoPart]
    refine slA_of (s811 _ _ ha8) fun c3 H12 s12 h12 => ?_
    refine ⟨(by show 0 ≤ sizeLine; decide), fun c4 hc4 => ?_⟩
    have s13 := same_upd (o := .tup []) hc4
    have h13 : upd H12 c4 (.tup []) c4 = some (.tup []) := upd_same
    generalize upd H12 c4 (.tup []) = H13 at s13 h13 ⊢
    have s1113 := s12.trans s13
    have s813 := s811.trans s1113
    have hp13 := hp8.same s813
    refine ⟨_, rfl, p, _, rfl, hp13, by omega, fun c5 H14 od b14 hp14 => ?_⟩
    have l14 := Lk.but hp13 hp14 b14
    have l814 : Lk H8 H13 := Lk.same s813
    have tail : ∀ x ∈ [V.ref c1, .ref c2, .ref c3, .ref c4, c5], ∃ o, ZV H14 x o := by
      intro x hx
      simp only [List.mem_cons, List.not_mem_nil, or_false] at hx
      rcases hx with rfl | rfl | rfl | rfl | rfl
      · refine ⟨_, .tup (l14.tup (s1113 _ _ (s11 _ _ h10))) (fun y hy => ?_) (by rw [List.length_append]; show _ + 1 ≤ _; omega)⟩
        rcases List.mem_append.mp hy with hy | hy
        · exact tab_known y hy
        · rw [List.mem_singleton.mp hy]; exact .int _
      · obtain ⟨_, h⟩ := l14.lst (s1113 _ _ h11)
        exact ⟨_, .no (.lst h)⟩
      · exact ⟨_, .tup (l14.tup (s13 _ _ h12)) (fun y hy => tab_known y (cut_mem hy)) (Nat.le_trans (cutV_length _ _ _) (by omega))⟩
      · exact ⟨_, .tup (l14.tup h13) (fun y hy => by cases hy) (Nat.zero_le _)⟩
      · exact od.zv
    have head : ∀ x ∈ ys, ∃ o, ZV H14 x o := fun x hx => by
      obtain ⟨o, z⟩ := hy x hx
      exact ⟨o, (z.lk l814).lk l14⟩
    have hl14 := b14 D1 _ hDp (s813 _ _ hl)
    have B14 := (B8.trans (But.of s813)).trans b14
    have hp14 := hp14.mono (show n + 400 + 3 * 6 + 10 ≤ n + 1000 by omega)
    clear l814 l14 s813 s1113 h13 h12 h11 h10 hp13 hp8 hy ha8 s811 s810 s12 s13 s11 s10 s9 od b14 B8
    refine ⟨(by show 5 ≤ sizeLine; decide), fun l2 hl2 => ?_⟩
    have s15 := same_upd (o := .lst [.ref c1, .ref c2, .ref c3, .ref c4, c5]) hl2
    refine ⟨D1, l2, ys, _, rfl, rfl, s15 _ _ hl14, upd_same, (by rw [ly, sizeLine_eq]; show 6 + 5 ≤ _; decide), fun l3 hl3 => ?_⟩
    have s16 := s15.trans (same_upd (o := .lst (ys ++ [.ref c1, .ref c2, .ref c3, .ref c4, c5])) hl3)
    have h16 : upd (upd H14 l2 (.lst [.ref c1, .ref c2, .ref c3, .ref c4, c5])) l3 (.lst (ys ++ [.ref c1, .ref c2, .ref c3, .ref c4, c5])) l3 = some (.lst (ys ++ [.ref c1, .ref c2, .ref c3, .ref c4, c5])) := upd_same
    generalize upd (upd H14 l2 (.lst [.ref c1, .ref c2, .ref c3, .ref c4, c5])) l3 (.lst (ys ++ [.ref c1, .ref c2, .ref c3, .ref c4, c5])) = H16 at s16 h16 ⊢
    obtain ⟨ws, hws⟩ : ∃ ws, ws = ys ++ [V.ref c1, .ref c2, .ref c3, .ref c4, c5] := ⟨_, rfl⟩
    have lws : ws.length ≤ 100 := by rw [hws, List.length_append, ly]; show 6 + 5 ≤ 100; decide
    have all : ∀ x ∈ ws, ∃ o, ZV H16 x o := fun x hx => by
      rw [hws] at hx
      rcases List.mem_append.mp hx with hx | hx
      · obtain ⟨o, z⟩ := head x hx; exact ⟨o, z.same s16⟩
      · obtain ⟨o, z⟩ := tail x hx; exact ⟨o, z.same s16⟩
    rw [← hws] at h16
    refine ⟨_, rfl, l3, rfl, ⟨_, SqL.of h16⟩, fun D9 hD9 => lcV_list (ys := ws) (fun y => y) (fun _ => V.bl true) hD9 (by rw [List.map_id']; exact h16) (by rw [sizeLine_eq]; omega) (fun y hy2 H17 Q17 s17 k17 => ?_) (fun H17 s17 h17 => ?_)⟩
    · obtain ⟨o, zv⟩ := all y hy2
      have zv := zv.same s17
      refine ⟨_, rfl, y, o, rfl, zv, fun H18 s18 => ?_⟩
      have r1 := rd_bl (K := K) (H := H18) (zoneAny o)
      refine ⟨_, _, rfl, (r1).dp, (r1).sh, (r1).nd, (r1).dep, (r1).len, (r1).lg, ?_⟩
      refine ⟨_, rfl, y, o, rfl, zv.same s18, fun H19 s19 => ?_⟩
      have r2 := rd_bl (K := K) (H := H19) (zoneAny o)
      refine ⟨_, _, rfl, (r2).dp, (r2).sh, (r2).nd, (r2).dep, (r2).len, (r2).lg, rfl, ?_⟩
      rw [decide_eq_true rfl]
      exact k17 _ (s18.trans s19)
    · refine ⟨D9, ws.map fun _ => true, rfl, SqL.of (by rw [h17, List.map_map]; rfl), ?_⟩
      rw [all_true]
      exact q _ (B14.trans (But.of (s16.trans s17))) (hp14.same (s16.trans s17))
end
end My

/-! The end of a law whose defs are told by FnG; what the head says of loose names is handed on. -/
namespace My
open PySem PySem.Spec PyProof.Rows L2
section
variable {P : Program} {w : World} {K : PySem.W.Frag} {mg mb : Str → Option Value} {k : Nat} {fa a : Addr} {fd : FuncData} {x : Str} {sp : Sp} {s : Shared} {vs : List Value} {ns : List Int}
/-- the call, from an abstract heap in which the script alone may stand -/
theorem call_at (H : Hp) (hO : Only H) (hS : SqL K H a (ns.map V.int)) (hok : HOk P w H s.heap) (hA : ∀ b, H b ≠ none → b = a) (hK : H a ≠ none → K.lookup a = none)
    (KX : K.In s.heap) (hns : s.heap.Ns mainGlobals mg) (hb : s.heap.Ns builtinsNs mb) (hbb : ∀ x : Str, x ≠ "__name__" → mb x = bootBuiltins x) (hlim : s.heap.NoLimit) (hg : s.gens = #[])
    (ha : s.heap.get? a = some { cls := .type "list", data := .seq vs.toArray }) (hr : Room k callerA)
    (F : ∀ base : Heap, K.In base → base.Ns mainGlobals mg → FnG P w K mg base CX0 k fa fd [x] sp) (hbind : ∀ (s : Shared) (u : Value), BindsTo s fd ⟨[u], []⟩ [(x, u)])
    (hsp : sp [.ref a] H (fun v _ => v = .bl true) fun _ _ _ => False) :
    codeAny (model P w) callerA (.call (.ref fa) ⟨[.ref a], []⟩) (fun r s' => r = .ok (.ret (.bool true)) ∧ OldK s.heap s'.heap ∧ s'.os = s.os ∧ AllBare s'.gens) s := by
  have other : ∀ {b : Addr} {o : Obj}, s.heap.get? b = some o → (∀ vs n, o.data ≠ .seq vs n) → H b = none := by
    intro b o e d
    cases q : H b with
    | none => rfl
    | some u =>
      obtain rfl := hA b (by rw [q]; simp)
      rw [ha] at e
      cases e
      exact absurd rfl (d _ _)
  have hide : ∀ {b : Addr} {m : Str → Option Value}, s.heap.Ns b m → (hidT s.heap H).Ns b m := by
    rintro b m ⟨o, es, ep, e, d, r⟩
    exact ⟨o, es, ep, hidT_get e (other e (fun vs n z => by rw [d] at z; cases z)), d, r⟩
  have hKb : K.In (hidT s.heap H) := by
    intro b o e
    refine hidT_get (KX b o e) ?_
    cases q : H b with
    | none => rfl
    | some u =>
      obtain rfl := hA b (by rw [q]; simp)
      rw [hK (by rw [q]; simp)] at e
      cases e
  have hM : Mod K mg (hidT s.heap H) := by
    obtain ⟨mc, h1, h2⟩ := hlim
    exact ⟨hKb, hide hns, ⟨mb, hide hb, hbb⟩, mc, hide h1, h2⟩
  have e0 : Env0 P w K mg (hidT s.heap H) callerA [] s H :=
    ⟨rfl, hM, fun b o e => of_hidT e, Nat.le_of_eq (hidT_size _ _), trivial, fun b z => absurd (show b ∈ ([] : List Addr) from z) (by simp), hok, .of_eq hg⟩
  refine codeAny_mono ((F _ hKb (hide hns)).run callerA [] s H ⟨[.ref a], []⟩ [.ref a] [.ref a] _ _ hr rfl e0 (hbind s (.ref a)) (.cons rfl .nil) hsp) ?_
  intro r s' h
  match r, h with
  | .error e, h => exact h.elim
  | .ok .next, h => exact h.elim
  | .ok .brk, h => exact h.elim
  | .ok .cont, h => exact h.elim
  | .ok (.ret u), h =>
    obtain ⟨v, H', os, bare, un, hok', r', q⟩ := h
    obtain rfl : v = .bl true := q
    obtain rfl : u = Value.bool true := r'
    refine ⟨rfl, OldK.of_keep fun b o e => ?_, os, bare⟩
    rcases hO b with z | ⟨ob, xs, z⟩
    · exact un.keep b o e z (fun y => absurd (show b ∈ ([] : List Addr) from y) (by simp)) (by simp)
    · obtain ⟨e1, _⟩ := hok b _ z
      obtain ⟨e2, _⟩ := hok' b _ (un.frzs b ob _ z)
      rw [e] at e1
      cases e1
      exact e2
theorem law_at (KX : K.In s.heap) (hns : s.heap.Ns mainGlobals mg) (hb : s.heap.Ns builtinsNs mb) (hbb : ∀ x : Str, x ≠ "__name__" → mb x = bootBuiltins x) (hlim : s.heap.NoLimit) (hg : s.gens = #[])
    (ha : s.heap.get? a = some { cls := .type "list", data := .seq vs.toArray }) (hi : IntsAre vs ns) (hl : ns.length ≤ sizeLine) (hr : Room k callerA)
    (F : ∀ base : Heap, K.In base → base.Ns mainGlobals mg → FnG P w K mg base CX0 k fa fd [x] sp) (hbind : ∀ (s : Shared) (u : Value), BindsTo s fd ⟨[u], []⟩ [(x, u)])
    (hsp : ∀ H : Hp, Only H → SqL K H a (ns.map V.int) → sp [.ref a] H (fun v _ => v = .bl true) fun _ _ _ => False) :
    codeAny (model P w) callerA (.call (.ref fa) ⟨[.ref a], []⟩) (fun r s' => r = .ok (.ret (.bool true)) ∧ OldK s.heap s'.heap ∧ s'.os = s.os ∧ AllBare s'.gens) s := by
  have rv := vals_ints hi
  cases hk : K.lookup a with
  | some o =>
    have e := KX a o hk
    rw [ha] at e
    cases e
    have hO : Only (fun _ => none) := fun b => .inl rfl
    have hS : SqL K (fun _ => none) a (ns.map V.int) := .inr ⟨_, vs.toArray, _, hk, rfl, rfl, rfl, by rw [List.size_toArray, hi.length]; exact hl, by simpa using rv⟩
    exact call_at _ hO hS (fun b u z => by cases (show (none : Option HO) = some u from z)) (fun b z => absurd rfl z) (fun z => absurd rfl z) KX hns hb hbb hlim hg ha hr F hbind (hsp _ hO hS)
  | none =>
    obtain ⟨H, hH⟩ : ∃ H : Hp, H = upd (fun _ => none) a (.frz { cls := .type "list", data := .seq vs.toArray } (.lst (ns.map V.int))) := ⟨_, rfl⟩
    have atA : H a = some (.frz { cls := .type "list", data := .seq vs.toArray } (.lst (ns.map V.int))) := by rw [hH]; exact upd_same
    have off : ∀ b, b ≠ a → H b = none := fun b n => by rw [hH, upd_ne n]
    have hO : Only H := fun b => by
      by_cases e : b = a
      · subst e; exact .inr ⟨_, _, atA⟩
      · exact .inl (off b e)
    have hS : SqL K H a (ns.map V.int) := .inl (.inr ⟨_, atA⟩)
    refine call_at H hO hS (fun b u z => ?_) (fun b z => ?_) (fun _ => hk) KX hns hb hbb hlim hg ha hr F hbind (hsp _ hO hS)
    · by_cases e : b = a
      · subst e
        rw [atA] at z
        cases z
        exact ⟨ha, by rw [List.length_map]; exact hl, vs, _, rv, ha⟩
      · rw [off b e] at z; cases z
    · by_cases e : b = a
      · exact e
      · exact absurd (off b e) z
end
/-- the goal that the head leaves -/
theorem walk_end {l : PySem.W.OpenLaw} {n k : Nat} {q : Program} {loose : List Str} {XP : (Str → Option Value) → Heap → Prop} {YP : World → Heap → Prop} {d : DefRec} {K : Params → PySem.W.Frag} {sp : World → Sp} {x : Str}
    (hn : l.most = some n) (hn2 : n ≤ sizeLine) (hdf : d.params.defaults = []) (hr : Room k callerA) (hY : ∀ (w : World) (h : Heap), YP w h → (K w.params).In h)
    (F : ∀ (w : World) (mg : Str → Option Value) (fa : Addr) (h : Heap), (K w.params).In h → h.Ns mainGlobals mg → XP mg h → mg d.name = some (.ref fa) →
      ∃ fd : FuncData, (∀ (s : Shared) (u : Value), BindsTo s fd ⟨[u], []⟩ [(x, u)]) ∧ ∀ base : Heap, (K w.params).In base → base.Ns mainGlobals mg → FnG l.prog w (K w.params) mg base CX0 k fa fd [x] (sp w))
    (hsp : ∀ (w : World) (H : Hp) (a : Addr) (ns : List Int), ns.length ≤ n → (∀ z ∈ ns, Builtin.Int.intBits z ≤ 1048576) → Only H → SqL (K w.params) H a (ns.map V.int) → sp w [.ref a] H (fun v _ => v = .bl true) fun _ _ _ => False) :
    PySem.W.WalkO q loose XP YP l.row.toRowW d [] (fun f vs => PySem.call f vs) := by
  refine Att.attach_callB hn hdf ?_
  intro w s₀ s₁ mg mb fa o pm cd doc a vs ns G Y ho hd hcd hmg hobj hints hlen hbits hg
  have KX := hY w _ Y
  obtain ⟨fd, hb, hF⟩ := F w mg fa _ KX G.T.g G.X hmg
  exact law_at KX G.T.g G.T.b G.T.builtins G.T.nolimit hg hobj hints (Nat.le_trans hlen hn2) hr hF hb (fun H hO hS => hsp w H a ns hlen hbits hO hS)
end My

namespace My
open PySem PySem.Spec PyProof.Rows L2
/-- law(script) -/
def spLaw (K : PySem.W.Frag) : Sp := fun vs H Q _ => ∃ (a : Addr) (ns : List Int), vs = [.ref a] ∧ SqL K H a (ns.map V.int) ∧ ns.length ≤ 63 ∧ (∀ z ∈ ns, Builtin.Int.intBits z ≤ 1048576) ∧ ∀ H', Q (.bl true) H'
section
variable {P : Program} {w : World} {K : PySem.W.Frag} {mg : Str → Option Value} {base : Heap} {A : Nat → Addr} {D : Nat → FuncData}
theorem ok_law (T : Txt K mg A D) : FnG P w K mg base CX0 9 (A 45) (D 45) ["script"] (spLaw K) := by
  have G__law_cells := ok_cells (P := P) (w := w) (base := base) T
  have G__law_pot := ok_pot (P := P) (w := w) (base := base) T
  have G__law_right := ok_right (P := P) (w := w) (base := base) T
  refine def_ok0 T.F_law sc_law (fun vs H Q E h => ?_) (fun cdv Ar outer s H vs Q E hr hG h => ?_)
  · obtain ⟨a, ns, rfl, _⟩ := h; rfl
  · obtain ⟨a, ns, rfl, hS, hl, hb, q⟩ := h
    refine ⟨_, (pss_cons (ps_for (by first | exact PassesOwn.never | exact PassesOwn.leaving | exact L2.passes_of rfl) rfl (pi_list (pe_cg G__law_cells (hr.mono (by first | decide | omega)) hG (by rfl) T.g__law_cells T.F__law_cells.kp T.b__law_cells pass0 (pa_cons (pv 0) (pa_cons pe_int pa_nil)))) (pg_name (i := 1) sc_law.nd rfl (Or.inl rfl)) (pss_cons (ps_set (i := 2) sc_law.nd rfl (Or.inr rfl) (pe_cg G__law_pot (hr.mono (by first | decide | omega)) hG (by rfl) T.g__law_pot T.F__law_pot.kp T.b__law_pot pass0 (pa_cons (pv 0) (pa_cons (pv 1) pa_nil))))
      (pss_one (ps_if (pt_not (pt_val (pe_callB (cr_all rfl) (by rfl) T.n_all (by decide +kernel) (pa_cons (pe_lc (own := [("lap", 3)]) (g := gName 3) (tt := tYes) (by rfl) sc_law.nd (pi_range1 rfl T.n_range (pa_cons pe_int pa_nil)) (blkOk_by (own := [("lap", 3)]) (N := ["script", "place", "pot", "lap"]) (sc := defScope s_law) (by decide +kernel)) (fun _ _ _ _ _ => pg_name (i := 3) sc_law.nd rfl (by first | exact Or.inl rfl | exact Or.inr rfl | exact Or.inr (Or.inl rfl))) (fun _ _ _ _ _ => pts_nil) (fun _ _ _ _ _ => (pe_cg G__law_right (hr.mono (by first | decide | omega)) hG (by rfl) T.g__law_right T.F__law_right.kp T.b__law_right pass0 (pa_cons (pv 2) pa_nil)))) pa_nil)))) (pss_one (ps_ret pe_bl)) pss_nil))))
      (pss_one (ps_ret pe_bl))), ?_⟩
    refine ⟨_, rfl, a, ns, 3, rfl, hS, hl, by decide, by decide, fun c H1 m s1 hc m1 m2 e1 => ?_⟩
    refine ⟨c, rfl, ⟨_, SqL.of e1⟩, for_list (K := K) (a := c) (xs := rgV 0 m) (fun i σ H' => ∃ u1 u2, σ = [some (.ref a), u1, u2, none] ∧ Same H1 H') ⟨none, none, rfl, Same.refl _⟩ (fun i σ H' _ ⟨_, _, _, s⟩ => s.seq (SqL.of e1)) ?_ ?_⟩
    · rintro i x σ H2 hx ⟨u1, u2, rfl, s2⟩
      obtain ⟨k, rfl, hk⟩ : ∃ k : Nat, x = .int (0 + (k : Int)) ∧ k < m.toNat := by
        obtain ⟨k, hk, rfl⟩ := List.mem_map.mp (List.mem_of_getElem? hx)
        exact ⟨k, rfl, by have := List.mem_range.mp hk; omega⟩
      refine ⟨_, rfl, _, rfl, a, ns, 0 + (k : Int), rfl, s2.seq (s1.seq hS), hl, hb, by omega, by omega, fun p H3 s3 hp0 hp => ?_⟩
      refine ⟨4, rfl, by decide, by decide, fun D hD => lc_range (lo := 0) (n := 4) (vs := [3]) (fun i H' => H' D = some (.lst ((List.replicate i true).map V.bl)) ∧ PotAt H' p (1000 * i) ∧ But p H3 H') ⟨upd_same, hp.same (same_upd hD), But.of (same_upd hD)⟩ ?_ ?_⟩
      · rintro j H4 hj ⟨hl4, hp4, b4⟩
        have hDp : D ≠ p := hp.ne hD
        refine ⟨rfl, _, rfl, p, 1000 * j, rfl, hp4, by omega, fun H5 b5 hp5 => ?_⟩
        refine ⟨_, b5 _ _ hDp hl4, ?_, ?_, ?_, ?_⟩
        · rw [List.length_map, List.length_replicate, sizeLine_eq]; omega
        · rw [upd_same, List.replicate_succ', List.map_append]; rfl
        · obtain ⟨o1, s1, c1, e1, e2⟩ := hp5
          exact ⟨o1, s1, c1, by rw [upd_ne hDp.symm]; exact e1, e2⟩
        · intro b o ne e
          rw [upd_ne (ne_of_none e hD)]
          exact (b4.trans b5) b o ne e
      · rintro H4 ⟨hl4, hp4, b4⟩
        refine ⟨_, List.replicate 4 true, rfl, SqL.of hl4, _, rfl, ?_⟩
        refine ⟨_, _, rfl, fun b o e => ?_⟩
        have e2 := s2 _ _ e
        exact b4 _ _ (ne_of_none e2 hp0) (s3 _ _ e2)
    · rintro σ H2 ⟨u1, u2, rfl, s2⟩
      exact q _
end
end My

namespace My
open PySem PySem.Spec PyProof.Rows L2
/-! ### what the top has written; the law's own head -/
theorem all_mk {P : Program} {w : World} {K : PySem.W.Frag} {h : Heap} {mg : Str → Option Value} {fa : Addr} (X : K.In h) (G : h.Ns mainGlobals mg) (hfa : mg "law" = some (.ref fa))
    {f0 : Addr} {od0 an0 : Option Addr} {sl0 : Array (Option Value)} {oc0 kV0 dc0 pm0 cd0 ct0 : Value}
    {f1 : Addr} {od1 an1 : Option Addr} {sl1 : Array (Option Value)} {oc1 kV1 dc1 pm1 cd1 ct1 : Value}
    {f2 : Addr} {od2 an2 : Option Addr} {sl2 : Array (Option Value)} {oc2 kV2 dc2 pm2 cd2 ct2 : Value}
    {f3 : Addr} {od3 an3 : Option Addr} {sl3 : Array (Option Value)} {oc3 kV3 dc3 pm3 cd3 ct3 : Value}
    {f4 : Addr} {od4 an4 : Option Addr} {sl4 : Array (Option Value)} {oc4 kV4 dc4 pm4 cd4 ct4 : Value}
    {f5 : Addr} {od5 an5 : Option Addr} {sl5 : Array (Option Value)} {oc5 kV5 dc5 pm5 cd5 ct5 : Value}
    {f6 : Addr} {od6 an6 : Option Addr} {sl6 : Array (Option Value)} {oc6 kV6 dc6 pm6 cd6 ct6 : Value}
    {f7 : Addr} {od7 an7 : Option Addr} {sl7 : Array (Option Value)} {oc7 kV7 dc7 pm7 cd7 ct7 : Value}
    {f8 : Addr} {od8 an8 : Option Addr} {sl8 : Array (Option Value)} {oc8 kV8 dc8 pm8 cd8 ct8 : Value}
    {f9 : Addr} {od9 an9 : Option Addr} {sl9 : Array (Option Value)} {oc9 kV9 dc9 pm9 cd9 ct9 : Value}
    {f10 : Addr} {od10 an10 : Option Addr} {sl10 : Array (Option Value)} {oc10 kV10 dc10 pm10 cd10 ct10 : Value}
    {f11 : Addr} {od11 an11 : Option Addr} {sl11 : Array (Option Value)} {oc11 kV11 dc11 pm11 cd11 ct11 : Value}
    {f12 : Addr} {od12 an12 : Option Addr} {sl12 : Array (Option Value)} {oc12 kV12 dc12 pm12 cd12 ct12 : Value}
    {f13 : Addr} {od13 an13 : Option Addr} {sl13 : Array (Option Value)} {oc13 kV13 dc13 pm13 cd13 ct13 : Value}
    {f14 : Addr} {od14 an14 : Option Addr} {sl14 : Array (Option Value)} {oc14 kV14 dc14 pm14 cd14 ct14 : Value}
    {f15 : Addr} {od15 an15 : Option Addr} {sl15 : Array (Option Value)} {oc15 kV15 dc15 pm15 cd15 ct15 : Value}
    {f16 : Addr} {od16 an16 : Option Addr} {sl16 : Array (Option Value)} {oc16 kV16 dc16 pm16 cd16 ct16 : Value}
    {f17 : Addr} {od17 an17 : Option Addr} {sl17 : Array (Option Value)} {oc17 kV17 dc17 pm17 cd17 ct17 : Value}
    {f18 : Addr} {od18 an18 : Option Addr} {sl18 : Array (Option Value)} {oc18 kV18 dc18 pm18 cd18 ct18 : Value}
    {f19 : Addr} {od19 an19 : Option Addr} {sl19 : Array (Option Value)} {oc19 kV19 dc19 pm19 cd19 ct19 : Value}
    {f20 : Addr} {od20 an20 : Option Addr} {sl20 : Array (Option Value)} {oc20 kV20 dc20 pm20 cd20 ct20 : Value}
    {f21 : Addr} {od21 an21 : Option Addr} {sl21 : Array (Option Value)} {oc21 kV21 dc21 pm21 cd21 ct21 : Value}
    {f22 : Addr} {od22 an22 : Option Addr} {sl22 : Array (Option Value)} {oc22 kV22 dc22 pm22 cd22 ct22 : Value}
    {f23 : Addr} {od23 an23 : Option Addr} {sl23 : Array (Option Value)} {oc23 kV23 dc23 pm23 cd23 ct23 : Value}
    {f24 : Addr} {od24 an24 : Option Addr} {sl24 : Array (Option Value)} {oc24 kV24 dc24 pm24 cd24 ct24 : Value}
    {f25 : Addr} {od25 an25 : Option Addr} {sl25 : Array (Option Value)} {oc25 kV25 dc25 pm25 cd25 ct25 : Value}
    {f26 : Addr} {od26 an26 : Option Addr} {sl26 : Array (Option Value)} {oc26 kV26 dc26 pm26 cd26 ct26 : Value}
    {f27 : Addr} {od27 an27 : Option Addr} {sl27 : Array (Option Value)} {oc27 kV27 dc27 pm27 cd27 ct27 : Value}
    {f28 : Addr} {od28 an28 : Option Addr} {sl28 : Array (Option Value)} {oc28 kV28 dc28 pm28 cd28 ct28 : Value}
    {f29 : Addr} {od29 an29 : Option Addr} {sl29 : Array (Option Value)} {oc29 kV29 dc29 pm29 cd29 ct29 : Value}
    {f30 : Addr} {od30 an30 : Option Addr} {sl30 : Array (Option Value)} {oc30 kV30 dc30 pm30 cd30 ct30 : Value}
    {f31 : Addr} {od31 an31 : Option Addr} {sl31 : Array (Option Value)} {oc31 kV31 dc31 pm31 cd31 ct31 : Value}
    {f32 : Addr} {od32 an32 : Option Addr} {sl32 : Array (Option Value)} {oc32 kV32 dc32 pm32 cd32 ct32 : Value}
    {f33 : Addr} {od33 an33 : Option Addr} {sl33 : Array (Option Value)} {oc33 kV33 dc33 pm33 cd33 ct33 : Value}
    {f34 : Addr} {od34 an34 : Option Addr} {sl34 : Array (Option Value)} {oc34 kV34 dc34 pm34 cd34 ct34 : Value}
    {f35 : Addr} {od35 an35 : Option Addr} {sl35 : Array (Option Value)} {oc35 kV35 dc35 pm35 cd35 ct35 : Value}
    {f36 : Addr} {od36 an36 : Option Addr} {sl36 : Array (Option Value)} {oc36 kV36 dc36 pm36 cd36 ct36 : Value}
    {f37 : Addr} {od37 an37 : Option Addr} {sl37 : Array (Option Value)} {oc37 kV37 dc37 pm37 cd37 ct37 : Value}
    {f38 : Addr} {od38 an38 : Option Addr} {sl38 : Array (Option Value)} {oc38 kV38 dc38 pm38 cd38 ct38 : Value}
    {f39 : Addr} {od39 an39 : Option Addr} {sl39 : Array (Option Value)} {oc39 kV39 dc39 pm39 cd39 ct39 : Value}
    {f40 : Addr} {od40 an40 : Option Addr} {sl40 : Array (Option Value)} {oc40 kV40 dc40 pm40 cd40 ct40 : Value}
    {f41 : Addr} {od41 an41 : Option Addr} {sl41 : Array (Option Value)} {oc41 kV41 dc41 pm41 cd41 ct41 : Value}
    {f42 : Addr} {od42 an42 : Option Addr} {sl42 : Array (Option Value)} {oc42 kV42 dc42 pm42 cd42 ct42 : Value}
    {f43 : Addr} {od43 an43 : Option Addr} {sl43 : Array (Option Value)} {oc43 kV43 dc43 pm43 cd43 ct43 : Value}
    {f44 : Addr} {od44 an44 : Option Addr} {sl44 : Array (Option Value)} {oc44 kV44 dc44 pm44 cd44 ct44 : Value}
    {f45 : Addr} {od45 an45 : Option Addr} {sl45 : Array (Option Value)} {oc45 kV45 dc45 pm45 cd45 ct45 : Value}
    {v_MOST_CLOCKS : Value}
    {v_MOST_MOMENT : Value}
    {v_FAR : Value}
    {v_MOST_BOUND : Value}
    {v_MOST_NUMBER : Value}
    {v_REACHED : Value}
    {v_NOUGHT : Value}
    {p_COMPARES : Addr} {o_COMPARES : Obj} {i_COMPARES : Array Value} {m_COMPARES : Nat}
    {p_UPPER : Addr} {o_UPPER : Obj} {i_UPPER : Array Value} {m_UPPER : Nat}
    (a0 : PySem.W.nsIn K mainGlobals "is_integer" = some (some (.ref f0)))
    (l0 : K.lookup f0 = some ⟨oc0, od0, .func (PySem.W.fnOf "is_integer" "is_integer" (defArgs s_is_integer) (defBody s_is_integer) (defScope s_is_integer) .none kV0 dc0 pm0 an0 cd0 ct0), sl0⟩)
    (c0 : PySem.W.codeIn K cd0 "is_integer" = true) (k0 : PySem.W.keepIn K (.ref f0) = true)
    (a1 : PySem.W.nsIn K mainGlobals "is_between" = some (some (.ref f1)))
    (l1 : K.lookup f1 = some ⟨oc1, od1, .func (PySem.W.fnOf "is_between" "is_between" (defArgs s_is_between) (defBody s_is_between) (defScope s_is_between) .none kV1 dc1 pm1 an1 cd1 ct1), sl1⟩)
    (c1 : PySem.W.codeIn K cd1 "is_between" = true) (k1 : PySem.W.keepIn K (.ref f1) = true)
    (a2 : PySem.W.nsIn K mainGlobals "common" = some (some (.ref f2)))
    (l2 : K.lookup f2 = some ⟨oc2, od2, .func (PySem.W.fnOf "common" "common" (defArgs s_common) (defBody s_common) (defScope s_common) .none kV2 dc2 pm2 an2 cd2 ct2), sl2⟩)
    (c2 : PySem.W.codeIn K cd2 "common" = true) (k2 : PySem.W.keepIn K (.ref f2) = true)
    (a3 : PySem.W.nsIn K mainGlobals "is_fraction" = some (some (.ref f3)))
    (l3 : K.lookup f3 = some ⟨oc3, od3, .func (PySem.W.fnOf "is_fraction" "is_fraction" (defArgs s_is_fraction) (defBody s_is_fraction) (defScope s_is_fraction) .none kV3 dc3 pm3 an3 cd3 ct3), sl3⟩)
    (c3 : PySem.W.codeIn K cd3 "is_fraction" = true) (k3 : PySem.W.keepIn K (.ref f3) = true)
    (a4 : PySem.W.nsIn K mainGlobals "bound_of" = some (some (.ref f4)))
    (l4 : K.lookup f4 = some ⟨oc4, od4, .func (PySem.W.fnOf "bound_of" "bound_of" (defArgs s_bound_of) (defBody s_bound_of) (defScope s_bound_of) .none kV4 dc4 pm4 an4 cd4 ct4), sl4⟩)
    (c4 : PySem.W.codeIn K cd4 "bound_of" = true) (k4 : PySem.W.keepIn K (.ref f4) = true)
    (a5 : PySem.W.nsIn K mainGlobals "sum_of_bounds" = some (some (.ref f5)))
    (l5 : K.lookup f5 = some ⟨oc5, od5, .func (PySem.W.fnOf "sum_of_bounds" "sum_of_bounds" (defArgs s_sum_of_bounds) (defBody s_sum_of_bounds) (defScope s_sum_of_bounds) .none kV5 dc5 pm5 an5 cd5 ct5), sl5⟩)
    (c5 : PySem.W.codeIn K cd5 "sum_of_bounds" = true) (k5 : PySem.W.keepIn K (.ref f5) = true)
    (a6 : PySem.W.nsIn K mainGlobals "side_of" = some (some (.ref f6)))
    (l6 : K.lookup f6 = some ⟨oc6, od6, .func (PySem.W.fnOf "side_of" "side_of" (defArgs s_side_of) (defBody s_side_of) (defScope s_side_of) .none kV6 dc6 pm6 an6 cd6 ct6), sl6⟩)
    (c6 : PySem.W.codeIn K cd6 "side_of" = true) (k6 : PySem.W.keepIn K (.ref f6) = true)
    (a7 : PySem.W.nsIn K mainGlobals "tight" = some (some (.ref f7)))
    (l7 : K.lookup f7 = some ⟨oc7, od7, .func (PySem.W.fnOf "tight" "tight" (defArgs s_tight) (defBody s_tight) (defScope s_tight) .none kV7 dc7 pm7 an7 cd7 ct7), sl7⟩)
    (c7 : PySem.W.codeIn K cd7 "tight" = true) (k7 : PySem.W.keepIn K (.ref f7) = true)
    (a8 : PySem.W.nsIn K mainGlobals "begin_zone" = some (some (.ref f8)))
    (l8 : K.lookup f8 = some ⟨oc8, od8, .func (PySem.W.fnOf "begin_zone" "begin_zone" (defArgs s_begin_zone) (defBody s_begin_zone) (defScope s_begin_zone) .none kV8 dc8 pm8 an8 cd8 ct8), sl8⟩)
    (c8 : PySem.W.codeIn K cd8 "begin_zone" = true) (k8 : PySem.W.keepIn K (.ref f8) = true)
    (a9 : PySem.W.nsIn K mainGlobals "passed" = some (some (.ref f9)))
    (l9 : K.lookup f9 = some ⟨oc9, od9, .func (PySem.W.fnOf "passed" "passed" (defArgs s_passed) (defBody s_passed) (defScope s_passed) .none kV9 dc9 pm9 an9 cd9 ct9), sl9⟩)
    (c9 : PySem.W.codeIn K cd9 "passed" = true) (k9 : PySem.W.keepIn K (.ref f9) = true)
    (a10 : PySem.W.nsIn K mainGlobals "guarded" = some (some (.ref f10)))
    (l10 : K.lookup f10 = some ⟨oc10, od10, .func (PySem.W.fnOf "guarded" "guarded" (defArgs s_guarded) (defBody s_guarded) (defScope s_guarded) .none kV10 dc10 pm10 an10 cd10 ct10), sl10⟩)
    (c10 : PySem.W.codeIn K cd10 "guarded" = true) (k10 : PySem.W.keepIn K (.ref f10) = true)
    (a11 : PySem.W.nsIn K mainGlobals "set_back" = some (some (.ref f11)))
    (l11 : K.lookup f11 = some ⟨oc11, od11, .func (PySem.W.fnOf "set_back" "set_back" (defArgs s_set_back) (defBody s_set_back) (defScope s_set_back) .none kV11 dc11 pm11 an11 cd11 ct11), sl11⟩)
    (c11 : PySem.W.codeIn K cd11 "set_back" = true) (k11 : PySem.W.keepIn K (.ref f11) = true)
    (a12 : PySem.W.nsIn K mainGlobals "is_zone_of" = some (some (.ref f12)))
    (l12 : K.lookup f12 = some ⟨oc12, od12, .func (PySem.W.fnOf "is_zone_of" "is_zone_of" (defArgs s_is_zone_of) (defBody s_is_zone_of) (defScope s_is_zone_of) .none kV12 dc12 pm12 an12 cd12 ct12), sl12⟩)
    (c12 : PySem.W.codeIn K cd12 "is_zone_of" = true) (k12 : PySem.W.keepIn K (.ref f12) = true)
    (a13 : PySem.W.nsIn K mainGlobals "is_zone" = some (some (.ref f13)))
    (l13 : K.lookup f13 = some ⟨oc13, od13, .func (PySem.W.fnOf "is_zone" "is_zone" (defArgs s_is_zone) (defBody s_is_zone) (defScope s_is_zone) .none kV13 dc13 pm13 an13 cd13 ct13), sl13⟩)
    (c13 : PySem.W.codeIn K cd13 "is_zone" = true) (k13 : PySem.W.keepIn K (.ref f13) = true)
    (a14 : PySem.W.nsIn K mainGlobals "check_zone" = some (some (.ref f14)))
    (l14 : K.lookup f14 = some ⟨oc14, od14, .func (PySem.W.fnOf "check_zone" "check_zone" (defArgs s_check_zone) (defBody s_check_zone) (defScope s_check_zone) .none kV14 dc14 pm14 an14 cd14 ct14), sl14⟩)
    (c14 : PySem.W.codeIn K cd14 "check_zone" = true) (k14 : PySem.W.keepIn K (.ref f14) = true)
    (a15 : PySem.W.nsIn K mainGlobals "has_values" = some (some (.ref f15)))
    (l15 : K.lookup f15 = some ⟨oc15, od15, .func (PySem.W.fnOf "has_values" "has_values" (defArgs s_has_values) (defBody s_has_values) (defScope s_has_values) .none kV15 dc15 pm15 an15 cd15 ct15), sl15⟩)
    (c15 : PySem.W.codeIn K cd15 "has_values" = true) (k15 : PySem.W.keepIn K (.ref f15) = true)
    (a16 : PySem.W.nsIn K mainGlobals "first_zone" = some (some (.ref f16)))
    (l16 : K.lookup f16 = some ⟨oc16, od16, .func (PySem.W.fnOf "first_zone" "first_zone" (defArgs s_first_zone) (defBody s_first_zone) (defScope s_first_zone) .none kV16 dc16 pm16 an16 cd16 ct16), sl16⟩)
    (c16 : PySem.W.codeIn K cd16 "first_zone" = true) (k16 : PySem.W.keepIn K (.ref f16) = true)
    (a17 : PySem.W.nsIn K mainGlobals "later_zone" = some (some (.ref f17)))
    (l17 : K.lookup f17 = some ⟨oc17, od17, .func (PySem.W.fnOf "later_zone" "later_zone" (defArgs s_later_zone) (defBody s_later_zone) (defScope s_later_zone) .none kV17 dc17 pm17 an17 cd17 ct17), sl17⟩)
    (c17 : PySem.W.codeIn K cd17 "later_zone" = true) (k17 : PySem.W.keepIn K (.ref f17) = true)
    (a18 : PySem.W.nsIn K mainGlobals "are_bounds" = some (some (.ref f18)))
    (l18 : K.lookup f18 = some ⟨oc18, od18, .func (PySem.W.fnOf "are_bounds" "are_bounds" (defArgs s_are_bounds) (defBody s_are_bounds) (defScope s_are_bounds) .none kV18 dc18 pm18 an18 cd18 ct18), sl18⟩)
    (c18 : PySem.W.codeIn K cd18 "are_bounds" = true) (k18 : PySem.W.keepIn K (.ref f18) = true)
    (a19 : PySem.W.nsIn K mainGlobals "zone_with" = some (some (.ref f19)))
    (l19 : K.lookup f19 = some ⟨oc19, od19, .func (PySem.W.fnOf "zone_with" "zone_with" (defArgs s_zone_with) (defBody s_zone_with) (defScope s_zone_with) .none kV19 dc19 pm19 an19 cd19 ct19), sl19⟩)
    (c19 : PySem.W.codeIn K cd19 "zone_with" = true) (k19 : PySem.W.keepIn K (.ref f19) = true)
    (a20 : PySem.W.nsIn K mainGlobals "zone_set" = some (some (.ref f20)))
    (l20 : K.lookup f20 = some ⟨oc20, od20, .func (PySem.W.fnOf "zone_set" "zone_set" (defArgs s_zone_set) (defBody s_zone_set) (defScope s_zone_set) .none kV20 dc20 pm20 an20 cd20 ct20), sl20⟩)
    (c20 : PySem.W.codeIn K cd20 "zone_set" = true) (k20 : PySem.W.keepIn K (.ref f20) = true)
    (a21 : PySem.W.nsIn K mainGlobals "is_in_zone" = some (some (.ref f21)))
    (l21 : K.lookup f21 = some ⟨oc21, od21, .func (PySem.W.fnOf "is_in_zone" "is_in_zone" (defArgs s_is_in_zone) (defBody s_is_in_zone) (defScope s_is_in_zone) .none kV21 dc21 pm21 an21 cd21 ct21), sl21⟩)
    (c21 : PySem.W.codeIn K cd21 "is_in_zone" = true) (k21 : PySem.W.keepIn K (.ref f21) = true)
    (a22 : PySem.W.nsIn K mainGlobals "_law_pot" = some (some (.ref f22)))
    (l22 : K.lookup f22 = some ⟨oc22, od22, .func (PySem.W.fnOf "_law_pot" "_law_pot" (defArgs s__law_pot) (defBody s__law_pot) (defScope s__law_pot) .none kV22 dc22 pm22 an22 cd22 ct22), sl22⟩)
    (c22 : PySem.W.codeIn K cd22 "_law_pot" = true) (k22 : PySem.W.keepIn K (.ref f22) = true)
    (a23 : PySem.W.nsIn K mainGlobals "_law_take" = some (some (.ref f23)))
    (l23 : K.lookup f23 = some ⟨oc23, od23, .func (PySem.W.fnOf "_law_take" "_law_take" (defArgs s__law_take) (defBody s__law_take) (defScope s__law_take) .none kV23 dc23 pm23 an23 cd23 ct23), sl23⟩)
    (c23 : PySem.W.codeIn K cd23 "_law_take" = true) (k23 : PySem.W.keepIn K (.ref f23) = true)
    (a24 : PySem.W.nsIn K mainGlobals "_law_of" = some (some (.ref f24)))
    (l24 : K.lookup f24 = some ⟨oc24, od24, .func (PySem.W.fnOf "_law_of" "_law_of" (defArgs s__law_of) (defBody s__law_of) (defScope s__law_of) .none kV24 dc24 pm24 an24 cd24 ct24), sl24⟩)
    (c24 : PySem.W.codeIn K cd24 "_law_of" = true) (k24 : PySem.W.keepIn K (.ref f24) = true)
    (a25 : PySem.W.nsIn K mainGlobals "_law_cells" = some (some (.ref f25)))
    (l25 : K.lookup f25 = some ⟨oc25, od25, .func (PySem.W.fnOf "_law_cells" "_law_cells" (defArgs s__law_cells) (defBody s__law_cells) (defScope s__law_cells) .none kV25 dc25 pm25 an25 cd25 ct25), sl25⟩)
    (c25 : PySem.W.codeIn K cd25 "_law_cells" = true) (k25 : PySem.W.keepIn K (.ref f25) = true)
    (a26 : PySem.W.nsIn K mainGlobals "_law_odd" = some (some (.ref f26)))
    (l26 : K.lookup f26 = some ⟨oc26, od26, .func (PySem.W.fnOf "_law_odd" "_law_odd" (defArgs s__law_odd) (defBody s__law_odd) (defScope s__law_odd) .none kV26 dc26 pm26 an26 cd26 ct26), sl26⟩)
    (c26 : PySem.W.codeIn K cd26 "_law_odd" = true) (k26 : PySem.W.keepIn K (.ref f26) = true)
    (a27 : PySem.W.nsIn K mainGlobals "_law_bent" = some (some (.ref f27)))
    (l27 : K.lookup f27 = some ⟨oc27, od27, .func (PySem.W.fnOf "_law_bent" "_law_bent" (defArgs s__law_bent) (defBody s__law_bent) (defScope s__law_bent) .none kV27 dc27 pm27 an27 cd27 ct27), sl27⟩)
    (c27 : PySem.W.codeIn K cd27 "_law_bent" = true) (k27 : PySem.W.keepIn K (.ref f27) = true)
    (a28 : PySem.W.nsIn K mainGlobals "_law_less" = some (some (.ref f28)))
    (l28 : K.lookup f28 = some ⟨oc28, od28, .func (PySem.W.fnOf "_law_less" "_law_less" (defArgs s__law_less) (defBody s__law_less) (defScope s__law_less) .none kV28 dc28 pm28 an28 cd28 ct28), sl28⟩)
    (c28 : PySem.W.codeIn K cd28 "_law_less" = true) (k28 : PySem.W.keepIn K (.ref f28) = true)
    (a29 : PySem.W.nsIn K mainGlobals "_law_side" = some (some (.ref f29)))
    (l29 : K.lookup f29 = some ⟨oc29, od29, .func (PySem.W.fnOf "_law_side" "_law_side" (defArgs s__law_side) (defBody s__law_side) (defScope s__law_side) .none kV29 dc29 pm29 an29 cd29 ct29), sl29⟩)
    (c29 : PySem.W.codeIn K cd29 "_law_side" = true) (k29 : PySem.W.keepIn K (.ref f29) = true)
    (a30 : PySem.W.nsIn K mainGlobals "_law_in" = some (some (.ref f30)))
    (l30 : K.lookup f30 = some ⟨oc30, od30, .func (PySem.W.fnOf "_law_in" "_law_in" (defArgs s__law_in) (defBody s__law_in) (defScope s__law_in) .none kV30 dc30 pm30 an30 cd30 ct30), sl30⟩)
    (c30 : PySem.W.codeIn K cd30 "_law_in" = true) (k30 : PySem.W.keepIn K (.ref f30) = true)
    (a31 : PySem.W.nsIn K mainGlobals "_law_sum" = some (some (.ref f31)))
    (l31 : K.lookup f31 = some ⟨oc31, od31, .func (PySem.W.fnOf "_law_sum" "_law_sum" (defArgs s__law_sum) (defBody s__law_sum) (defScope s__law_sum) .none kV31 dc31 pm31 an31 cd31 ct31), sl31⟩)
    (c31 : PySem.W.codeIn K cd31 "_law_sum" = true) (k31 : PySem.W.keepIn K (.ref f31) = true)
    (a32 : PySem.W.nsIn K mainGlobals "_law_tight" = some (some (.ref f32)))
    (l32 : K.lookup f32 = some ⟨oc32, od32, .func (PySem.W.fnOf "_law_tight" "_law_tight" (defArgs s__law_tight) (defBody s__law_tight) (defScope s__law_tight) .none kV32 dc32 pm32 an32 cd32 ct32), sl32⟩)
    (c32 : PySem.W.codeIn K cd32 "_law_tight" = true) (k32 : PySem.W.keepIn K (.ref f32) = true)
    (a33 : PySem.W.nsIn K mainGlobals "_law_kept" = some (some (.ref f33)))
    (l33 : K.lookup f33 = some ⟨oc33, od33, .func (PySem.W.fnOf "_law_kept" "_law_kept" (defArgs s__law_kept) (defBody s__law_kept) (defScope s__law_kept) .none kV33 dc33 pm33 an33 cd33 ct33), sl33⟩)
    (c33 : PySem.W.codeIn K cd33 "_law_kept" = true) (k33 : PySem.W.keepIn K (.ref f33) = true)
    (a34 : PySem.W.nsIn K mainGlobals "_law_later" = some (some (.ref f34)))
    (l34 : K.lookup f34 = some ⟨oc34, od34, .func (PySem.W.fnOf "_law_later" "_law_later" (defArgs s__law_later) (defBody s__law_later) (defScope s__law_later) .none kV34 dc34 pm34 an34 cd34 ct34), sl34⟩)
    (c34 : PySem.W.codeIn K cd34 "_law_later" = true) (k34 : PySem.W.keepIn K (.ref f34) = true)
    (a35 : PySem.W.nsIn K mainGlobals "_law_set" = some (some (.ref f35)))
    (l35 : K.lookup f35 = some ⟨oc35, od35, .func (PySem.W.fnOf "_law_set" "_law_set" (defArgs s__law_set) (defBody s__law_set) (defScope s__law_set) .none kV35 dc35 pm35 an35 cd35 ct35), sl35⟩)
    (c35 : PySem.W.codeIn K cd35 "_law_set" = true) (k35 : PySem.W.keepIn K (.ref f35) = true)
    (a36 : PySem.W.nsIn K mainGlobals "_law_guard_of" = some (some (.ref f36)))
    (l36 : K.lookup f36 = some ⟨oc36, od36, .func (PySem.W.fnOf "_law_guard_of" "_law_guard_of" (defArgs s__law_guard_of) (defBody s__law_guard_of) (defScope s__law_guard_of) .none kV36 dc36 pm36 an36 cd36 ct36), sl36⟩)
    (c36 : PySem.W.codeIn K cd36 "_law_guard_of" = true) (k36 : PySem.W.keepIn K (.ref f36) = true)
    (a37 : PySem.W.nsIn K mainGlobals "_law_drawn_zone" = some (some (.ref f37)))
    (l37 : K.lookup f37 = some ⟨oc37, od37, .func (PySem.W.fnOf "_law_drawn_zone" "_law_drawn_zone" (defArgs s__law_drawn_zone) (defBody s__law_drawn_zone) (defScope s__law_drawn_zone) .none kV37 dc37 pm37 an37 cd37 ct37), sl37⟩)
    (c37 : PySem.W.codeIn K cd37 "_law_drawn_zone" = true) (k37 : PySem.W.keepIn K (.ref f37) = true)
    (a38 : PySem.W.nsIn K mainGlobals "_law_values" = some (some (.ref f38)))
    (l38 : K.lookup f38 = some ⟨oc38, od38, .func (PySem.W.fnOf "_law_values" "_law_values" (defArgs s__law_values) (defBody s__law_values) (defScope s__law_values) .none kV38 dc38 pm38 an38 cd38 ct38), sl38⟩)
    (c38 : PySem.W.codeIn K cd38 "_law_values" = true) (k38 : PySem.W.keepIn K (.ref f38) = true)
    (a39 : PySem.W.nsIn K mainGlobals "_law_sixths" = some (some (.ref f39)))
    (l39 : K.lookup f39 = some ⟨oc39, od39, .func (PySem.W.fnOf "_law_sixths" "_law_sixths" (defArgs s__law_sixths) (defBody s__law_sixths) (defScope s__law_sixths) .none kV39 dc39 pm39 an39 cd39 ct39), sl39⟩)
    (c39 : PySem.W.codeIn K cd39 "_law_sixths" = true) (k39 : PySem.W.keepIn K (.ref f39) = true)
    (a40 : PySem.W.nsIn K mainGlobals "_law_is_zone" = some (some (.ref f40)))
    (l40 : K.lookup f40 = some ⟨oc40, od40, .func (PySem.W.fnOf "_law_is_zone" "_law_is_zone" (defArgs s__law_is_zone) (defBody s__law_is_zone) (defScope s__law_is_zone) .none kV40 dc40 pm40 an40 cd40 ct40), sl40⟩)
    (c40 : PySem.W.codeIn K cd40 "_law_is_zone" = true) (k40 : PySem.W.keepIn K (.ref f40) = true)
    (a41 : PySem.W.nsIn K mainGlobals "_law_is_later" = some (some (.ref f41)))
    (l41 : K.lookup f41 = some ⟨oc41, od41, .func (PySem.W.fnOf "_law_is_later" "_law_is_later" (defArgs s__law_is_later) (defBody s__law_is_later) (defScope s__law_is_later) .none kV41 dc41 pm41 an41 cd41 ct41), sl41⟩)
    (c41 : PySem.W.codeIn K cd41 "_law_is_later" = true) (k41 : PySem.W.keepIn K (.ref f41) = true)
    (a42 : PySem.W.nsIn K mainGlobals "_law_is_step_right" = some (some (.ref f42)))
    (l42 : K.lookup f42 = some ⟨oc42, od42, .func (PySem.W.fnOf "_law_is_step_right" "_law_is_step_right" (defArgs s__law_is_step_right) (defBody s__law_is_step_right) (defScope s__law_is_step_right) .none kV42 dc42 pm42 an42 cd42 ct42), sl42⟩)
    (c42 : PySem.W.codeIn K cd42 "_law_is_step_right" = true) (k42 : PySem.W.keepIn K (.ref f42) = true)
    (a43 : PySem.W.nsIn K mainGlobals "_law_keeps" = some (some (.ref f43)))
    (l43 : K.lookup f43 = some ⟨oc43, od43, .func (PySem.W.fnOf "_law_keeps" "_law_keeps" (defArgs s__law_keeps) (defBody s__law_keeps) (defScope s__law_keeps) .none kV43 dc43 pm43 an43 cd43 ct43), sl43⟩)
    (c43 : PySem.W.codeIn K cd43 "_law_keeps" = true) (k43 : PySem.W.keepIn K (.ref f43) = true)
    (a44 : PySem.W.nsIn K mainGlobals "_law_right" = some (some (.ref f44)))
    (l44 : K.lookup f44 = some ⟨oc44, od44, .func (PySem.W.fnOf "_law_right" "_law_right" (defArgs s__law_right) (defBody s__law_right) (defScope s__law_right) .none kV44 dc44 pm44 an44 cd44 ct44), sl44⟩)
    (c44 : PySem.W.codeIn K cd44 "_law_right" = true) (k44 : PySem.W.keepIn K (.ref f44) = true)
    (a45 : PySem.W.nsIn K mainGlobals "law" = some (some (.ref f45)))
    (l45 : K.lookup f45 = some ⟨oc45, od45, .func (PySem.W.fnOf "law" "law" (defArgs s_law) (defBody s_law) (defScope s_law) .none kV45 dc45 pm45 an45 cd45 ct45), sl45⟩)
    (c45 : PySem.W.codeIn K cd45 "law" = true) (k45 : PySem.W.keepIn K (.ref f45) = true)
    (n_len : PySem.W.nsIn K mainGlobals "len" = some none)
    (n_int : PySem.W.nsIn K mainGlobals "int" = some none)
    (n_bool : PySem.W.nsIn K mainGlobals "bool" = some none)
    (n_str : PySem.W.nsIn K mainGlobals "str" = some none)
    (n_tuple : PySem.W.nsIn K mainGlobals "tuple" = some none)
    (n_list : PySem.W.nsIn K mainGlobals "list" = some none)
    (n_abs : PySem.W.nsIn K mainGlobals "abs" = some none)
    (n_max : PySem.W.nsIn K mainGlobals "max" = some none)
    (n_min : PySem.W.nsIn K mainGlobals "min" = some none)
    (n_sum : PySem.W.nsIn K mainGlobals "sum" = some none)
    (n_all : PySem.W.nsIn K mainGlobals "all" = some none)
    (n_any : PySem.W.nsIn K mainGlobals "any" = some none)
    (n_isinstance : PySem.W.nsIn K mainGlobals "isinstance" = some none)
    (n_range : PySem.W.nsIn K mainGlobals "range" = some none)
    (n_repr : PySem.W.nsIn K mainGlobals "repr" = some none)
    (n_enumerate : PySem.W.nsIn K mainGlobals "enumerate" = some none)
    (c_MOST_CLOCKS : PySem.W.nsIn K mainGlobals "MOST_CLOCKS" = some (some v_MOST_CLOCKS)) (r_MOST_CLOCKS : RelV (.int 3) v_MOST_CLOCKS)
    (c_MOST_MOMENT : PySem.W.nsIn K mainGlobals "MOST_MOMENT" = some (some v_MOST_MOMENT)) (r_MOST_MOMENT : RelV (.int 12) v_MOST_MOMENT)
    (c_FAR : PySem.W.nsIn K mainGlobals "FAR" = some (some v_FAR)) (r_FAR : RelV (.int 1000000) v_FAR)
    (c_MOST_BOUND : PySem.W.nsIn K mainGlobals "MOST_BOUND" = some (some v_MOST_BOUND)) (r_MOST_BOUND : RelV (.int 200000) v_MOST_BOUND)
    (c_MOST_NUMBER : PySem.W.nsIn K mainGlobals "MOST_NUMBER" = some (some v_MOST_NUMBER)) (r_MOST_NUMBER : RelV (.int 100000) v_MOST_NUMBER)
    (c_REACHED : PySem.W.nsIn K mainGlobals "REACHED" = some (some v_REACHED)) (r_REACHED : RelV (.int 1) v_REACHED)
    (c_NOUGHT : PySem.W.nsIn K mainGlobals "NOUGHT" = some (some v_NOUGHT)) (r_NOUGHT : RelV (.int 1) v_NOUGHT)
    (c_COMPARES : PySem.W.nsIn K mainGlobals "COMPARES" = some (some (.ref p_COMPARES))) (l_COMPARES : K.lookup p_COMPARES = some o_COMPARES) (t_COMPARES : o_COMPARES.cls = .type "tuple") (d_COMPARES : o_COMPARES.data = .seq i_COMPARES m_COMPARES) (z_COMPARES : i_COMPARES.size ≤ sizeLine) (v_COMPARES : Vals (comparesW.map V.str) i_COMPARES.toList)
    (c_UPPER : PySem.W.nsIn K mainGlobals "UPPER" = some (some (.ref p_UPPER))) (l_UPPER : K.lookup p_UPPER = some o_UPPER) (t_UPPER : o_UPPER.cls = .type "tuple") (d_UPPER : o_UPPER.data = .seq i_UPPER m_UPPER) (z_UPPER : i_UPPER.size ≤ sizeLine) (v_UPPER : Vals (upperW.map V.str) i_UPPER.toList) :
    ∃ fd : FuncData, (∀ (s : Shared) (v : Value), BindsTo s fd ⟨[v], []⟩ [("script", v)]) ∧ ∀ base : Heap, K.In base → base.Ns mainGlobals mg → FnG P w K mg base CX0 9 fa fd ["script"] (spLaw K) := by
  have e := V.ref.inj (show V.ref f45 = V.ref fa by have z := hfa.symm.trans (PySem.W.mg_of X G a45); cases z; rfl)
  subst e
  have F0 := fun_mk (st := s_is_integer) l0 c0 k0
  have F1 := fun_mk (st := s_is_between) l1 c1 k1
  have F2 := fun_mk (st := s_common) l2 c2 k2
  have F3 := fun_mk (st := s_is_fraction) l3 c3 k3
  have F4 := fun_mk (st := s_bound_of) l4 c4 k4
  have F5 := fun_mk (st := s_sum_of_bounds) l5 c5 k5
  have F6 := fun_mk (st := s_side_of) l6 c6 k6
  have F7 := fun_mk (st := s_tight) l7 c7 k7
  have F8 := fun_mk (st := s_begin_zone) l8 c8 k8
  have F9 := fun_mk (st := s_passed) l9 c9 k9
  have F10 := fun_mk (st := s_guarded) l10 c10 k10
  have F11 := fun_mk (st := s_set_back) l11 c11 k11
  have F12 := fun_mk (st := s_is_zone_of) l12 c12 k12
  have F13 := fun_mk (st := s_is_zone) l13 c13 k13
  have F14 := fun_mk (st := s_check_zone) l14 c14 k14
  have F15 := fun_mk (st := s_has_values) l15 c15 k15
  have F16 := fun_mk (st := s_first_zone) l16 c16 k16
  have F17 := fun_mk (st := s_later_zone) l17 c17 k17
  have F18 := fun_mk (st := s_are_bounds) l18 c18 k18
  have F19 := fun_mk (st := s_zone_with) l19 c19 k19
  have F20 := fun_mk (st := s_zone_set) l20 c20 k20
  have F21 := fun_mk (st := s_is_in_zone) l21 c21 k21
  have F22 := fun_mk (st := s__law_pot) l22 c22 k22
  have F23 := fun_mk (st := s__law_take) l23 c23 k23
  have F24 := fun_mk (st := s__law_of) l24 c24 k24
  have F25 := fun_mk (st := s__law_cells) l25 c25 k25
  have F26 := fun_mk (st := s__law_odd) l26 c26 k26
  have F27 := fun_mk (st := s__law_bent) l27 c27 k27
  have F28 := fun_mk (st := s__law_less) l28 c28 k28
  have F29 := fun_mk (st := s__law_side) l29 c29 k29
  have F30 := fun_mk (st := s__law_in) l30 c30 k30
  have F31 := fun_mk (st := s__law_sum) l31 c31 k31
  have F32 := fun_mk (st := s__law_tight) l32 c32 k32
  have F33 := fun_mk (st := s__law_kept) l33 c33 k33
  have F34 := fun_mk (st := s__law_later) l34 c34 k34
  have F35 := fun_mk (st := s__law_set) l35 c35 k35
  have F36 := fun_mk (st := s__law_guard_of) l36 c36 k36
  have F37 := fun_mk (st := s__law_drawn_zone) l37 c37 k37
  have F38 := fun_mk (st := s__law_values) l38 c38 k38
  have F39 := fun_mk (st := s__law_sixths) l39 c39 k39
  have F40 := fun_mk (st := s__law_is_zone) l40 c40 k40
  have F41 := fun_mk (st := s__law_is_later) l41 c41 k41
  have F42 := fun_mk (st := s__law_is_step_right) l42 c42 k42
  have F43 := fun_mk (st := s__law_keeps) l43 c43 k43
  have F44 := fun_mk (st := s__law_right) l44 c44 k44
  have F45 := fun_mk (st := s_law) l45 c45 k45
  have T : Txt K mg (fun i => [f0, f1, f2, f3, f4, f5, f6, f7, f8, f9, f10, f11, f12, f13, f14, f15, f16, f17, f18, f19, f20, f21, f22, f23, f24, f25, f26, f27, f28, f29, f30, f31, f32, f33, f34, f35, f36, f37, f38, f39, f40, f41, f42, f43, f44, f45, 0, 0, 0, 0, 0, 0, 0, 0, 0, 0, 0, 0, 0, 0, 0, 0, 0, 0, 0, 0, 0, 0, 0, 0, 0, 0, 0, 0, 0, 0, 0, 0, 0, 0, 0, 0, 0, 0, 0, 0, 0, 0, 0, 0, 0, 0, 0, 0, 0, 0, 0, 0, 0, 0, p_COMPARES, p_UPPER].getD i 0) (fun i => [(PySem.W.fnOf "is_integer" "is_integer" (defArgs s_is_integer) (defBody s_is_integer) (defScope s_is_integer) .none kV0 dc0 pm0 an0 cd0 ct0), (PySem.W.fnOf "is_between" "is_between" (defArgs s_is_between) (defBody s_is_between) (defScope s_is_between) .none kV1 dc1 pm1 an1 cd1 ct1), (PySem.W.fnOf "common" "common" (defArgs s_common) (defBody s_common) (defScope s_common) .none kV2 dc2 pm2 an2 cd2 ct2), (PySem.W.fnOf "is_fraction" "is_fraction" (defArgs s_is_fraction) (defBody s_is_fraction) (defScope s_is_fraction) .none kV3 dc3 pm3 an3 cd3 ct3), (PySem.W.fnOf "bound_of" "bound_of" (defArgs s_bound_of) (defBody s_bound_of) (defScope s_bound_of) .none kV4 dc4 pm4 an4 cd4 ct4), (PySem.W.fnOf "sum_of_bounds" "sum_of_bounds" (defArgs s_sum_of_bounds) (defBody s_sum_of_bounds) (defScope s_sum_of_bounds) .none kV5 dc5 pm5 an5 cd5 ct5), (PySem.W.fnOf "side_of" "side_of" (defArgs s_side_of) (defBody s_side_of) (defScope s_side_of) .none kV6 dc6 pm6 an6 cd6 ct6), (PySem.W.fnOf "tight" "tight" (defArgs s_tight) (defBody s_tight) (defScope s_tight) .none kV7 dc7 pm7 an7 cd7 ct7), (PySem.W.fnOf "begin_zone" "begin_zone" (defArgs s_begin_zone) (defBody s_begin_zone) (defScope s_begin_zone) .none kV8 dc8 pm8 an8 cd8 ct8), (PySem.W.fnOf "passed" "passed" (defArgs s_passed) (defBody s_passed) (defScope s_passed) .none kV9 dc9 pm9 an9 cd9 ct9), (PySem.W.fnOf "guarded" "guarded" (defArgs s_guarded) (defBody s_guarded) (defScope s_guarded) .none kV10 dc10 pm10 an10 cd10 ct10), (PySem.W.fnOf "set_back" "set_back" (defArgs s_set_back) (defBody s_set_back) (defScope s_set_back) .none kV11 dc11 pm11 an11 cd11 ct11), (PySem.W.fnOf "is_zone_of" "is_zone_of" (defArgs s_is_zone_of) (defBody s_is_zone_of) (defScope s_is_zone_of) .none kV12 dc12 pm12 an12 cd12 ct12), (PySem.W.fnOf "is_zone" "is_zone" (defArgs s_is_zone) (defBody s_is_zone) (defScope s_is_zone) .none kV13 dc13 pm13 an13 cd13 ct13), (PySem.W.fnOf "check_zone" "check_zone" (defArgs s_check_zone) (defBody s_check_zone) (defScope s_check_zone) .none kV14 dc14 pm14 an14 cd14 ct14), (PySem.W.fnOf "has_values" "has_values" (defArgs s_has_values) (defBody s_has_values) (defScope s_has_values) .none kV15 dc15 pm15 an15 cd15 ct15), (PySem.W.fnOf "first_zone" "first_zone" (defArgs s_first_zone) (defBody s_first_zone) (defScope s_first_zone) .none kV16 dc16 pm16 an16 cd16 ct16), (PySem.W.fnOf "later_zone" "later_zone" (defArgs s_later_zone) (defBody s_later_zone) (defScope s_later_zone) .none kV17 dc17 pm17 an17 cd17 ct17), (PySem.W.fnOf "are_bounds" "are_bounds" (defArgs s_are_bounds) (defBody s_are_bounds) (defScope s_are_bounds) .none kV18 dc18 pm18 an18 cd18 ct18), (PySem.W.fnOf "zone_with" "zone_with" (defArgs s_zone_with) (defBody s_zone_with) (defScope s_zone_with) .none kV19 dc19 pm19 an19 cd19 ct19), (PySem.W.fnOf "zone_set" "zone_set" (defArgs s_zone_set) (defBody s_zone_set) (defScope s_zone_set) .none kV20 dc20 pm20 an20 cd20 ct20), (PySem.W.fnOf "is_in_zone" "is_in_zone" (defArgs s_is_in_zone) (defBody s_is_in_zone) (defScope s_is_in_zone) .none kV21 dc21 pm21 an21 cd21 ct21), (PySem.W.fnOf "_law_pot" "_law_pot" (defArgs s__law_pot) (defBody s__law_pot) (defScope s__law_pot) .none kV22 dc22 pm22 an22 cd22 ct22), (PySem.W.fnOf "_law_take" "_law_take" (defArgs s__law_take) (defBody s__law_take) (defScope s__law_take) .none kV23 dc23 pm23 an23 cd23 ct23), (PySem.W.fnOf "_law_of" "_law_of" (defArgs s__law_of) (defBody s__law_of) (defScope s__law_of) .none kV24 dc24 pm24 an24 cd24 ct24), (PySem.W.fnOf "_law_cells" "_law_cells" (defArgs s__law_cells) (defBody s__law_cells) (defScope s__law_cells) .none kV25 dc25 pm25 an25 cd25 ct25), (PySem.W.fnOf "_law_odd" "_law_odd" (defArgs s__law_odd) (defBody s__law_odd) (defScope s__law_odd) .none kV26 dc26 pm26 an26 cd26 ct26), (PySem.W.fnOf "_law_bent" "_law_bent" (defArgs s__law_bent) (defBody s__law_bent) (defScope s__law_bent) .none kV27 dc27 pm27 an27 cd27 ct27), (PySem.W.fnOf "_law_less" "_law_less" (defArgs s__law_less) (defBody s__law_less) (defScope s__law_less) .none kV28 dc28 pm28 an28 cd28 ct28), (PySem.W.fnOf "_law_side" "_law_side" (defArgs s__law_side) (defBody s__law_side) (defScope s__law_side) .none kV29 dc29 pm29 an29 cd29 ct29), (PySem.W.fnOf "_law_in" "_law_in" (defArgs s__law_in) (defBody s__law_in) (defScope s__law_in) .none kV30 dc30 pm30 an30 cd30 ct30), (PySem.W.fnOf "_law_sum" "_law_sum" (defArgs s__law_sum) (defBody s__law_sum) (defScope s__law_sum) .none kV31 dc31 pm31 an31 cd31 ct31), (PySem.W.fnOf "_law_tight" "_law_tight" (defArgs s__law_tight) (defBody s__law_tight) (defScope s__law_tight) .none kV32 dc32 pm32 an32 cd32 ct32), (PySem.W.fnOf "_law_kept" "_law_kept" (defArgs s__law_kept) (defBody s__law_kept) (defScope s__law_kept) .none kV33 dc33 pm33 an33 cd33 ct33), (PySem.W.fnOf "_law_later" "_law_later" (defArgs s__law_later) (defBody s__law_later) (defScope s__law_later) .none kV34 dc34 pm34 an34 cd34 ct34), (PySem.W.fnOf "_law_set" "_law_set" (defArgs s__law_set) (defBody s__law_set) (defScope s__law_set) .none kV35 dc35 pm35 an35 cd35 ct35), (PySem.W.fnOf "_law_guard_of" "_law_guard_of" (defArgs s__law_guard_of) (defBody s__law_guard_of) (defScope s__law_guard_of) .none kV36 dc36 pm36 an36 cd36 ct36), (PySem.W.fnOf "_law_drawn_zone" "_law_drawn_zone" (defArgs s__law_drawn_zone) (defBody s__law_drawn_zone) (defScope s__law_drawn_zone) .none kV37 dc37 pm37 an37 cd37 ct37), (PySem.W.fnOf "_law_values" "_law_values" (defArgs s__law_values) (defBody s__law_values) (defScope s__law_values) .none kV38 dc38 pm38 an38 cd38 ct38), (PySem.W.fnOf "_law_sixths" "_law_sixths" (defArgs s__law_sixths) (defBody s__law_sixths) (defScope s__law_sixths) .none kV39 dc39 pm39 an39 cd39 ct39), (PySem.W.fnOf "_law_is_zone" "_law_is_zone" (defArgs s__law_is_zone) (defBody s__law_is_zone) (defScope s__law_is_zone) .none kV40 dc40 pm40 an40 cd40 ct40), (PySem.W.fnOf "_law_is_later" "_law_is_later" (defArgs s__law_is_later) (defBody s__law_is_later) (defScope s__law_is_later) .none kV41 dc41 pm41 an41 cd41 ct41), (PySem.W.fnOf "_law_is_step_right" "_law_is_step_right" (defArgs s__law_is_step_right) (defBody s__law_is_step_right) (defScope s__law_is_step_right) .none kV42 dc42 pm42 an42 cd42 ct42), (PySem.W.fnOf "_law_keeps" "_law_keeps" (defArgs s__law_keeps) (defBody s__law_keeps) (defScope s__law_keeps) .none kV43 dc43 pm43 an43 cd43 ct43), (PySem.W.fnOf "_law_right" "_law_right" (defArgs s__law_right) (defBody s__law_right) (defScope s__law_right) .none kV44 dc44 pm44 an44 cd44 ct44), (PySem.W.fnOf "law" "law" (defArgs s_law) (defBody s_law) (defScope s_law) .none kV45 dc45 pm45 an45 cd45 ct45)].getD i (PySem.W.fnOf "is_integer" "is_integer" (defArgs s_is_integer) (defBody s_is_integer) (defScope s_is_integer) .none kV0 dc0 pm0 an0 cd0 ct0)) :=
    { F_is_integer := F0,
      g_is_integer := PySem.W.mg_of X G a0,
      b_is_integer := F0.binds (ps := ["value"]) fun _ _ _ _ _ _ us hl => match us, hl with | [_], _ => rfl,
      F_is_between := F1,
      g_is_between := PySem.W.mg_of X G a1,
      b_is_between := F1.binds (ps := ["value", "low", "high"]) fun _ _ _ _ _ _ us hl => match us, hl with | [_, _, _], _ => rfl,
      F_common := F2,
      g_common := PySem.W.mg_of X G a2,
      b_common := F2.binds (ps := ["one", "other"]) fun _ _ _ _ _ _ us hl => match us, hl with | [_, _], _ => rfl,
      F_is_fraction := F3,
      g_is_fraction := PySem.W.mg_of X G a3,
      b_is_fraction := F3.binds (ps := ["value"]) fun _ _ _ _ _ _ us hl => match us, hl with | [_], _ => rfl,
      F_bound_of := F4,
      g_bound_of := PySem.W.mg_of X G a4,
      b_bound_of := F4.binds (ps := ["number", "is_reached"]) fun _ _ _ _ _ _ us hl => match us, hl with | [_, _], _ => rfl,
      F_sum_of_bounds := F5,
      g_sum_of_bounds := PySem.W.mg_of X G a5,
      b_sum_of_bounds := F5.binds (ps := ["one", "other"]) fun _ _ _ _ _ _ us hl => match us, hl with | [_, _], _ => rfl,
      F_side_of := F6,
      g_side_of := PySem.W.mg_of X G a6,
      b_side_of := F6.binds (ps := ["zone"]) fun _ _ _ _ _ _ us hl => match us, hl with | [_], _ => rfl,
      F_tight := F7,
      g_tight := PySem.W.mg_of X G a7,
      b_tight := F7.binds (ps := ["bounds", "size"]) fun _ _ _ _ _ _ us hl => match us, hl with | [_, _], _ => rfl,
      F_begin_zone := F8,
      g_begin_zone := PySem.W.mg_of X G a8,
      b_begin_zone := F8.binds (ps := ["many"]) fun _ _ _ _ _ _ us hl => match us, hl with | [_], _ => rfl,
      F_passed := F9,
      g_passed := PySem.W.mg_of X G a9,
      b_passed := F9.binds (ps := ["zone"]) fun _ _ _ _ _ _ us hl => match us, hl with | [_], _ => rfl,
      F_guarded := F10,
      g_guarded := PySem.W.mg_of X G a10,
      b_guarded := F10.binds (ps := ["zone", "clocks", "guard"]) fun _ _ _ _ _ _ us hl => match us, hl with | [_, _, _], _ => rfl,
      F_set_back := F11,
      g_set_back := PySem.W.mg_of X G a11,
      b_set_back := F11.binds (ps := ["zone", "clocks", "resets"]) fun _ _ _ _ _ _ us hl => match us, hl with | [_, _, _], _ => rfl,
      F_is_zone_of := F12,
      g_is_zone_of := PySem.W.mg_of X G a12,
      b_is_zone_of := F12.binds (ps := ["many", "value"]) fun _ _ _ _ _ _ us hl => match us, hl with | [_, _], _ => rfl,
      F_is_zone := F13,
      g_is_zone := PySem.W.mg_of X G a13,
      b_is_zone := F13.binds (ps := ["value"]) fun _ _ _ _ _ _ us hl => match us, hl with | [_], _ => rfl,
      kb_is_zone := kbind1 F13 (fun _ _ _ _ _ _ _ => rfl) (fun _ _ _ _ _ _ _ => rfl),
      F_check_zone := F14,
      g_check_zone := PySem.W.mg_of X G a14,
      b_check_zone := F14.binds (ps := ["zone"]) fun _ _ _ _ _ _ us hl => match us, hl with | [_], _ => rfl,
      F_has_values := F15,
      g_has_values := PySem.W.mg_of X G a15,
      b_has_values := F15.binds (ps := ["zone", "values"]) fun _ _ _ _ _ _ us hl => match us, hl with | [_, _], _ => rfl,
      F_first_zone := F16,
      g_first_zone := PySem.W.mg_of X G a16,
      b_first_zone := F16.binds (ps := ["many"]) fun _ _ _ _ _ _ us hl => match us, hl with | [_], _ => rfl,
      kb_first_zone := kbind1 F16 (fun _ _ _ _ _ _ _ => rfl) (fun _ _ _ _ _ _ _ => rfl),
      F_later_zone := F17,
      g_later_zone := PySem.W.mg_of X G a17,
      b_later_zone := F17.binds (ps := ["zone"]) fun _ _ _ _ _ _ us hl => match us, hl with | [_], _ => rfl,
      kb_later_zone := kbind1 F17 (fun _ _ _ _ _ _ _ => rfl) (fun _ _ _ _ _ _ _ => rfl),
      F_are_bounds := F18,
      g_are_bounds := PySem.W.mg_of X G a18,
      b_are_bounds := F18.binds (ps := ["many", "value"]) fun _ _ _ _ _ _ us hl => match us, hl with | [_, _], _ => rfl,
      F_zone_with := F19,
      g_zone_with := PySem.W.mg_of X G a19,
      b_zone_with := F19.binds (ps := ["zone", "guard"]) fun _ _ _ _ _ _ us hl => match us, hl with | [_, _], _ => rfl,
      kb_zone_with := kbind2 F19 (fun _ _ _ _ _ _ _ _ => rfl),
      F_zone_set := F20,
      g_zone_set := PySem.W.mg_of X G a20,
      b_zone_set := F20.binds (ps := ["zone", "places"]) fun _ _ _ _ _ _ us hl => match us, hl with | [_, _], _ => rfl,
      kb_zone_set := kbind2 F20 (fun _ _ _ _ _ _ _ _ => rfl),
      F_is_in_zone := F21,
      g_is_in_zone := PySem.W.mg_of X G a21,
      b_is_in_zone := F21.binds (ps := ["zone", "values"]) fun _ _ _ _ _ _ us hl => match us, hl with | [_, _], _ => rfl,
      kb_is_in_zone := kbind2 F21 (fun _ _ _ _ _ _ _ _ => rfl),
      F__law_pot := F22,
      g__law_pot := PySem.W.mg_of X G a22,
      b__law_pot := F22.binds (ps := ["script", "place"]) fun _ _ _ _ _ _ us hl => match us, hl with | [_, _], _ => rfl,
      F__law_take := F23,
      g__law_take := PySem.W.mg_of X G a23,
      b__law_take := F23.binds (ps := ["pot", "upto"]) fun _ _ _ _ _ _ us hl => match us, hl with | [_, _], _ => rfl,
      F__law_of := F24,
      g__law_of := PySem.W.mg_of X G a24,
      b__law_of := F24.binds (ps := ["pot", "some"]) fun _ _ _ _ _ _ us hl => match us, hl with | [_, _], _ => rfl,
      F__law_cells := F25,
      g__law_cells := PySem.W.mg_of X G a25,
      b__law_cells := F25.binds (ps := ["script", "most"]) fun _ _ _ _ _ _ us hl => match us, hl with | [_, _], _ => rfl,
      F__law_odd := F26,
      g__law_odd := PySem.W.mg_of X G a26,
      b__law_odd := F26.binds (ps := ["pot"]) fun _ _ _ _ _ _ us hl => match us, hl with | [_], _ => rfl,
      F__law_bent := F27,
      g__law_bent := PySem.W.mg_of X G a27,
      b__law_bent := F27.binds (ps := ["pot", "value"]) fun _ _ _ _ _ _ us hl => match us, hl with | [_, _], _ => rfl,
      F__law_less := F28,
      g__law_less := PySem.W.mg_of X G a28,
      b__law_less := F28.binds (ps := ["zone", "row", "column", "by"]) fun _ _ _ _ _ _ us hl => match us, hl with | [_, _, _, _], _ => rfl,
      F__law_side := F29,
      g__law_side := PySem.W.mg_of X G a29,
      b__law_side := F29.binds (ps := ["zone"]) fun _ _ _ _ _ _ us hl => match us, hl with | [_], _ => rfl,
      F__law_in := F30,
      g__law_in := PySem.W.mg_of X G a30,
      b__law_in := F30.binds (ps := ["zone", "values"]) fun _ _ _ _ _ _ us hl => match us, hl with | [_, _], _ => rfl,
      F__law_sum := F31,
      g__law_sum := PySem.W.mg_of X G a31,
      b__law_sum := F31.binds (ps := ["one", "other"]) fun _ _ _ _ _ _ us hl => match us, hl with | [_, _], _ => rfl,
      F__law_tight := F32,
      g__law_tight := PySem.W.mg_of X G a32,
      b__law_tight := F32.binds (ps := ["bounds", "side"]) fun _ _ _ _ _ _ us hl => match us, hl with | [_, _], _ => rfl,
      F__law_kept := F33,
      g__law_kept := PySem.W.mg_of X G a33,
      b__law_kept := F33.binds (ps := ["zone", "guard"]) fun _ _ _ _ _ _ us hl => match us, hl with | [_, _], _ => rfl,
      F__law_later := F34,
      g__law_later := PySem.W.mg_of X G a34,
      b__law_later := F34.binds (ps := ["zone"]) fun _ _ _ _ _ _ us hl => match us, hl with | [_], _ => rfl,
      F__law_set := F35,
      g__law_set := PySem.W.mg_of X G a35,
      b__law_set := F35.binds (ps := ["zone", "clock"]) fun _ _ _ _ _ _ us hl => match us, hl with | [_, _], _ => rfl,
      F__law_guard_of := F36,
      g__law_guard_of := PySem.W.mg_of X G a36,
      b__law_guard_of := F36.binds (ps := ["pot", "many"]) fun _ _ _ _ _ _ us hl => match us, hl with | [_, _], _ => rfl,
      F__law_drawn_zone := F37,
      g__law_drawn_zone := PySem.W.mg_of X G a37,
      b__law_drawn_zone := F37.binds (ps := ["pot", "many", "laps"]) fun _ _ _ _ _ _ us hl => match us, hl with | [_, _, _], _ => rfl,
      F__law_values := F38,
      g__law_values := PySem.W.mg_of X G a38,
      b__law_values := F38.binds (ps := ["pot", "many"]) fun _ _ _ _ _ _ us hl => match us, hl with | [_, _], _ => rfl,
      F__law_sixths := F39,
      g__law_sixths := PySem.W.mg_of X G a39,
      b__law_sixths := F39.binds (ps := ["number"]) fun _ _ _ _ _ _ us hl => match us, hl with | [_], _ => rfl,
      F__law_is_zone := F40,
      g__law_is_zone := PySem.W.mg_of X G a40,
      b__law_is_zone := F40.binds (ps := ["value"]) fun _ _ _ _ _ _ us hl => match us, hl with | [_], _ => rfl,
      F__law_is_later := F41,
      g__law_is_later := PySem.W.mg_of X G a41,
      b__law_is_later := F41.binds (ps := ["zone", "values"]) fun _ _ _ _ _ _ us hl => match us, hl with | [_, _], _ => rfl,
      F__law_is_step_right := F42,
      g__law_is_step_right := PySem.W.mg_of X G a42,
      b__law_is_step_right := F42.binds (ps := ["pot", "zone", "many"]) fun _ _ _ _ _ _ us hl => match us, hl with | [_, _, _], _ => rfl,
      F__law_keeps := F43,
      g__law_keeps := PySem.W.mg_of X G a43,
      b__law_keeps := F43.binds (ps := ["value", "word", "number"]) fun _ _ _ _ _ _ us hl => match us, hl with | [_, _, _], _ => rfl,
      F__law_right := F44,
      g__law_right := PySem.W.mg_of X G a44,
      b__law_right := F44.binds (ps := ["pot"]) fun _ _ _ _ _ _ us hl => match us, hl with | [_], _ => rfl,
      F_law := F45,
      g_law := PySem.W.mg_of X G a45,
      b_law := F45.binds (ps := ["script"]) fun _ _ _ _ _ _ us hl => match us, hl with | [_], _ => rfl,
      n_len := PySem.W.mg_none_of X G n_len,
      n_int := PySem.W.mg_none_of X G n_int,
      n_bool := PySem.W.mg_none_of X G n_bool,
      n_str := PySem.W.mg_none_of X G n_str,
      n_tuple := PySem.W.mg_none_of X G n_tuple,
      n_list := PySem.W.mg_none_of X G n_list,
      n_abs := PySem.W.mg_none_of X G n_abs,
      n_max := PySem.W.mg_none_of X G n_max,
      n_min := PySem.W.mg_none_of X G n_min,
      n_sum := PySem.W.mg_none_of X G n_sum,
      n_all := PySem.W.mg_none_of X G n_all,
      n_any := PySem.W.mg_none_of X G n_any,
      n_isinstance := PySem.W.mg_none_of X G n_isinstance,
      n_range := PySem.W.mg_none_of X G n_range,
      n_repr := PySem.W.mg_none_of X G n_repr,
      n_enumerate := PySem.W.mg_none_of X G n_enumerate,
      c_MOST_CLOCKS := ⟨_, PySem.W.mg_of X G c_MOST_CLOCKS, r_MOST_CLOCKS⟩,
      c_MOST_MOMENT := ⟨_, PySem.W.mg_of X G c_MOST_MOMENT, r_MOST_MOMENT⟩,
      c_FAR := ⟨_, PySem.W.mg_of X G c_FAR, r_FAR⟩,
      c_MOST_BOUND := ⟨_, PySem.W.mg_of X G c_MOST_BOUND, r_MOST_BOUND⟩,
      c_MOST_NUMBER := ⟨_, PySem.W.mg_of X G c_MOST_NUMBER, r_MOST_NUMBER⟩,
      c_REACHED := ⟨_, PySem.W.mg_of X G c_REACHED, r_REACHED⟩,
      c_NOUGHT := ⟨_, PySem.W.mg_of X G c_NOUGHT, r_NOUGHT⟩,
      c_COMPARES := ⟨_, PySem.W.mg_of X G c_COMPARES, rfl⟩,
      t_COMPARES := fun H => .inr ⟨o_COMPARES, i_COMPARES, m_COMPARES, l_COMPARES, t_COMPARES, d_COMPARES, z_COMPARES, v_COMPARES⟩,
      c_UPPER := ⟨_, PySem.W.mg_of X G c_UPPER, rfl⟩,
      t_UPPER := fun H => .inr ⟨o_UPPER, i_UPPER, m_UPPER, l_UPPER, t_UPPER, d_UPPER, z_UPPER, v_UPPER⟩ }
  exact ⟨(PySem.W.fnOf "law" "law" (defArgs s_law) (defBody s_law) (defScope s_law) .none kV45 dc45 pm45 an45 cd45 ct45), fun s v => .of_eq rfl, fun base _ _ => ok_law T⟩
end My
open PySem PySem.W PyProof.Rows
set_option maxRecDepth 100000 in
set_option maxHeartbeats 0 in
theorem PySem.Challenge.cw_holdsfailsopen_k26_whole_zones_by_values_holds : PySem.Challenge.rw_holdsfailsopen_k26_whole_zones_by_values.Holds := by
  w_on; o_law; k_head; (case hw => w_witness2)
  k_fill
  refine My.walk_end (l := PySem.Challenge.rw_holdsfailsopen_k26_whole_zones_by_values) (n := 63) (k := 9) (x := "script") (sp := fun w => My.spLaw _) rfl (by decide) rfl ⟨rfl, by decide, by decide⟩ (fun w h Y => PySem.W.kIn_of Y) ?F (fun w H a ns hl hb _ hS => ⟨a, ns, rfl, hS, hl, hb, fun _ => rfl⟩)
  case F =>
    intro w mg fa h KX G hX hmg
    refine' My.all_mk KX G hmg ?a0 ?l0 ?c0 ?k0 ?a1 ?l1 ?c1 ?k1 ?a2 ?l2 ?c2 ?k2 ?a3 ?l3 ?c3 ?k3 ?a4 ?l4 ?c4 ?k4 ?a5 ?l5 ?c5 ?k5 ?a6 ?l6 ?c6 ?k6 ?a7 ?l7 ?c7 ?k7 ?a8 ?l8 ?c8 ?k8 ?a9 ?l9 ?c9 ?k9 ?a10 ?l10 ?c10 ?k10 ?a11 ?l11 ?c11 ?k11 ?a12 ?l12 ?c12 ?k12 ?a13 ?l13 ?c13 ?k13 ?a14 ?l14 ?c14 ?k14 ?a15 ?l15 ?c15 ?k15 ?a16 ?l16 ?c16 ?k16 ?a17 ?l17 ?c17 ?k17 ?a18 ?l18 ?c18 ?k18 ?a19 ?l19 ?c19 ?k19 ?a20 ?l20 ?c20 ?k20 ?a21 ?l21 ?c21 ?k21 ?a22 ?l22 ?c22 ?k22 ?a23 ?l23 ?c23 ?k23 ?a24 ?l24 ?c24 ?k24 ?a25 ?l25 ?c25 ?k25 ?a26 ?l26 ?c26 ?k26 ?a27 ?l27 ?c27 ?k27 ?a28 ?l28 ?c28 ?k28 ?a29 ?l29 ?c29 ?k29 ?a30 ?l30 ?c30 ?k30 ?a31 ?l31 ?c31 ?k31 ?a32 ?l32 ?c32 ?k32 ?a33 ?l33 ?c33 ?k33 ?a34 ?l34 ?c34 ?k34 ?a35 ?l35 ?c35 ?k35 ?a36 ?l36 ?c36 ?k36 ?a37 ?l37 ?c37 ?k37 ?a38 ?l38 ?c38 ?k38 ?a39 ?l39 ?c39 ?k39 ?a40 ?l40 ?c40 ?k40 ?a41 ?l41 ?c41 ?k41 ?a42 ?l42 ?c42 ?k42 ?a43 ?l43 ?c43 ?k43 ?a44 ?l44 ?c44 ?k44 ?a45 ?l45 ?c45 ?k45 ?n_len ?n_int ?n_bool ?n_str ?n_tuple ?n_list ?n_abs ?n_max ?n_min ?n_sum ?n_all ?n_any ?n_isinstance ?n_range ?n_repr ?n_enumerate ?c_MOST_CLOCKS ?r_MOST_CLOCKS ?c_MOST_MOMENT ?r_MOST_MOMENT ?c_FAR ?r_FAR ?c_MOST_BOUND ?r_MOST_BOUND ?c_MOST_NUMBER ?r_MOST_NUMBER ?c_REACHED ?r_REACHED ?c_NOUGHT ?r_NOUGHT ?c_COMPARES ?l_COMPARES ?t_COMPARES ?d_COMPARES ?z_COMPARES ?v_COMPARES ?c_UPPER ?l_UPPER ?t_UPPER ?d_UPPER ?z_UPPER ?v_UPPER
    (case a0 => k_is)
    (case l0 => k_is)
    (case c0 => k_is)
    (case k0 => k_is)
    (case a1 => k_is)
    (case l1 => k_is)
    (case c1 => k_is)
    (case k1 => k_is)
    (case a2 => k_is)
    (case l2 => k_is)
    (case c2 => k_is)
    (case k2 => k_is)
    (case a3 => k_is)
    (case l3 => k_is)
    (case c3 => k_is)
    (case k3 => k_is)
    (case a4 => k_is)
    (case l4 => k_is)
    (case c4 => k_is)
    (case k4 => k_is)
    (case a5 => k_is)
    (case l5 => k_is)
    (case c5 => k_is)
    (case k5 => k_is)
    (case a6 => k_is)
    (case l6 => k_is)
    (case c6 => k_is)
    (case k6 => k_is)
    (case a7 => k_is)
    (case l7 => k_is)
    (case c7 => k_is)
    (case k7 => k_is)
    (case a8 => k_is)
    (case l8 => k_is)
    (case c8 => k_is)
    (case k8 => k_is)
    (case a9 => k_is)
    (case l9 => k_is)
    (case c9 => k_is)
    (case k9 => k_is)
    (case a10 => k_is)
    (case l10 => k_is)
    (case c10 => k_is)
    (case k10 => k_is)
    (case a11 => k_is)
    (case l11 => k_is)
    (case c11 => k_is)
    (case k11 => k_is)
    (case a12 => k_is)
    (case l12 => k_is)
    (case c12 => k_is)
    (case k12 => k_is)
    (case a13 => k_is)
    (case l13 => k_is)
    (case c13 => k_is)
    (case k13 => k_is)
    (case a14 => k_is)
    (case l14 => k_is)
    (case c14 => k_is)
    (case k14 => k_is)
    (case a15 => k_is)
    (case l15 => k_is)
    (case c15 => k_is)
    (case k15 => k_is)
    (case a16 => k_is)
    (case l16 => k_is)
    (case c16 => k_is)
    (case k16 => k_is)
    (case a17 => k_is)
    (case l17 => k_is)
    (case c17 => k_is)
    (case k17 => k_is)
    (case a18 => k_is)
    (case l18 => k_is)
    (case c18 => k_is)
    (case k18 => k_is)
    (case a19 => k_is)
    (case l19 => k_is)
    (case c19 => k_is)
    (case k19 => k_is)
    (case a20 => k_is)
    (case l20 => k_is)
    (case c20 => k_is)
    (case k20 => k_is)
    (case a21 => k_is)
    (case l21 => k_is)
    (case c21 => k_is)
    (case k21 => k_is)
    (case a22 => k_is)
    (case l22 => k_is)
    (case c22 => k_is)
    (case k22 => k_is)
    (case a23 => k_is)
    (case l23 => k_is)
    (case c23 => k_is)
    (case k23 => k_is)
    (case a24 => k_is)
    (case l24 => k_is)
    (case c24 => k_is)
    (case k24 => k_is)
    (case a25 => k_is)
    (case l25 => k_is)
    (case c25 => k_is)
    (case k25 => k_is)
    (case a26 => k_is)
    (case l26 => k_is)
    (case c26 => k_is)
    (case k26 => k_is)
    (case a27 => k_is)
    (case l27 => k_is)
    (case c27 => k_is)
    (case k27 => k_is)
    (case a28 => k_is)
    (case l28 => k_is)
    (case c28 => k_is)
    (case k28 => k_is)
    (case a29 => k_is)
    (case l29 => k_is)
    (case c29 => k_is)
    (case k29 => k_is)
    (case a30 => k_is)
    (case l30 => k_is)
    (case c30 => k_is)
    (case k30 => k_is)
    (case a31 => k_is)
    (case l31 => k_is)
    (case c31 => k_is)
    (case k31 => k_is)
    (case a32 => k_is)
    (case l32 => k_is)
    (case c32 => k_is)
    (case k32 => k_is)
    (case a33 => k_is)
    (case l33 => k_is)
    (case c33 => k_is)
    (case k33 => k_is)
    (case a34 => k_is)
    (case l34 => k_is)
    (case c34 => k_is)
    (case k34 => k_is)
    (case a35 => k_is)
    (case l35 => k_is)
    (case c35 => k_is)
    (case k35 => k_is)
    (case a36 => k_is)
    (case l36 => k_is)
    (case c36 => k_is)
    (case k36 => k_is)
    (case a37 => k_is)
    (case l37 => k_is)
    (case c37 => k_is)
    (case k37 => k_is)
    (case a38 => k_is)
    (case l38 => k_is)
    (case c38 => k_is)
    (case k38 => k_is)
    (case a39 => k_is)
    (case l39 => k_is)
    (case c39 => k_is)
    (case k39 => k_is)
    (case a40 => k_is)
    (case l40 => k_is)
    (case c40 => k_is)
    (case k40 => k_is)
    (case a41 => k_is)
    (case l41 => k_is)
    (case c41 => k_is)
    (case k41 => k_is)
    (case a42 => k_is)
    (case l42 => k_is)
    (case c42 => k_is)
    (case k42 => k_is)
    (case a43 => k_is)
    (case l43 => k_is)
    (case c43 => k_is)
    (case k43 => k_is)
    (case a44 => k_is)
    (case l44 => k_is)
    (case c44 => k_is)
    (case k44 => k_is)
    (case a45 => k_is)
    (case l45 => k_is)
    (case c45 => k_is)
    (case k45 => k_is)
    (case n_len => k_is)
    (case n_int => k_is)
    (case n_bool => k_is)
    (case n_str => k_is)
    (case n_tuple => k_is)
    (case n_list => k_is)
    (case n_abs => k_is)
    (case n_max => k_is)
    (case n_min => k_is)
    (case n_sum => k_is)
    (case n_all => k_is)
    (case n_any => k_is)
    (case n_isinstance => k_is)
    (case n_range => k_is)
    (case n_repr => k_is)
    (case n_enumerate => k_is)
    (case c_MOST_CLOCKS => k_is)
    (case c_MOST_MOMENT => k_is)
    (case c_FAR => k_is)
    (case c_MOST_BOUND => k_is)
    (case c_MOST_NUMBER => k_is)
    (case c_REACHED => k_is)
    (case c_NOUGHT => k_is)
    (case c_COMPARES => k_is)
    (case l_COMPARES => k_is)
    (case c_UPPER => k_is)
    (case l_UPPER => k_is)
    (case r_MOST_CLOCKS => exact ⟨_, rfl⟩)
    (case r_MOST_MOMENT => exact ⟨_, rfl⟩)
    (case r_FAR => exact ⟨_, rfl⟩)
    (case r_MOST_BOUND => exact ⟨_, rfl⟩)
    (case r_MOST_NUMBER => exact ⟨_, rfl⟩)
    (case r_REACHED => exact ⟨_, rfl⟩)
    (case r_NOUGHT => exact ⟨_, rfl⟩)
    (case t_COMPARES => rfl)
    (case d_COMPARES => rfl)
    (case z_COMPARES => rw [sizeLine_eq]; decide)
    (case v_COMPARES => repeat (first | exact .nil | refine .cons ⟨_, rfl⟩ ?_))
    (case t_UPPER => rfl)
    (case d_UPPER => rfl)
    (case z_UPPER => rw [sizeLine_eq]; decide)
    (case v_UPPER => repeat (first | exact .nil | refine .cons ⟨_, rfl⟩ ?_))
