import PyProof.Rows.All
import Wide.All
import OpenK.AllK
import Wide.FinOn
import HandS.ForMost
import HandS.ForExc
import HandS.Wide
import HandS.IsInst
import HandS.TupAny
import HandS.Conv
import HandS.EndBits
import HandS.Style
import HandS.More
import PySem.Challenge.RW_holdsfailsopen_k24_whole_numbers_as_text
set_option Elab.async false
set_option linter.all false
set_option maxRecDepth 100000
set_option maxHeartbeats 4000000
/-! Foundation: defs that know that no repr is under way around them; calls of such by position and by keyword. -/
namespace My
open PySem PySem.Spec PyProof.Rows L2

/-- a def's promise, kept wherever no repr is under way -/
structure FnG (P : Program) (w : World) (K : PySem.W.Frag) (mg : Str → Option Value) (base : Heap) (C : CXT) (k : Nat) (f : Addr) (fd : FuncData) (ps : List Str) (sp : Sp) : Prop where
  len : ∀ vs H Q E, sp vs H Q E → vs.length = ps.length
  run : ∀ (A : Around) (outer : List Env) (s : Shared) (H : Hp) (args : Args) (us : List Value) (vs : List V) (Q : VK) (E : XK),
    Room k A → A.guards = some [] → Env0 P w K mg base A outer s H → BindsTo s fd args (ps.zip us) → Vals vs us → sp vs H Q E →
    codeAny (model P w) A (.call (.ref f) args) (CR C outer P w H s Q E) s

section
variable {P : Program} {w : World} {K : PySem.W.Frag} {mg : Str → Option Value} {base : Heap} {C : CXT} {k : Nat} {f : Addr} {fd : FuncData} {ps : List Str} {sp : Sp}
theorem FnG.of (F : FnOk P w K mg base C k f fd ps sp) : FnG P w K mg base C k f fd ps sp :=
  ⟨F.len, fun A outer s H args us vs Q E hr _ => F.run A outer s H args us vs Q E hr⟩
theorem FnG.mono {j : Nat} (F : FnG P w K mg base C j f fd ps sp) (h : j ≤ k) : FnG P w K mg base C k f fd ps sp :=
  ⟨F.len, fun A outer s H args us vs Q E hr => F.run A outer s H args us vs Q E (hr.mono h)⟩

/-- a def of the text by its body -/
theorem def_ok {x qual : Str} {st : Stmt} {N : List Str} (F : Fun K x qual st f fd) (S : FnScope N ps (defScope st))
    (len : ∀ vs H Q E, sp vs H Q E → vs.length = ps.length)
    (body : ∀ (cdv : Value) (A : Around) (outer : List Env) (s : Shared) (H : Hp) (vs : List V) (Q : VK) (E : XK),
      Room k (A.deeper (envOfC qual (defScope st) s.heap.objs.size f cdv)) → (A.deeper (envOfC qual (defScope st) s.heap.objs.size f cdv)).guards = some [] → sp vs H Q E →
      ∃ t, PSs (cxOf C P w K mg base N qual (defScope st) f cdv A outer s H E) (defBody st) t ∧ t { nx := fun _ H' => Q .non H', rt := Q } (start N vs) H) :
    FnG P w K mg base C (k + 1) f fd ps sp := by
  obtain ⟨oc, od, kV, doc, pm, an, cdv, ct, osl, rfl, lk, hcd⟩ := F.ex
  constructor
  · exact len
  intro A outer s H args us vs Q E hr hg e0 hb r hsp
  have hl := len _ _ _ _ hsp
  have up : ∀ b o, base.get? b = some o → s.heap.get? b = some o := fun b o e => (e0.bs b o e).1
  have KX : K.In s.heap := e0.mod.kin.keeps up
  have kinds : ∀ y ∈ ps.zip us, (defScope st).names.lookup y.1 = some .local ∨
      ((defScope st).names.lookup y.1 = some .cell ∧ ((cellsFrom (s.heap.objs.size + 1) (defScope st).names []).lookup y.1).isSome = true) := by
    intro y hy
    cases S.par y.1 (List.of_mem_zip hy).1 with
    | inl q => exact Or.inl q
    | inr q => exact Or.inr ⟨q, PySem.W.cellsFrom_some _ _ _ (Or.inl q)⟩
  refine codeAny_call_function hr.depth (KX _ _ lk) rfl S.co S.gen rfl (PySem.W.codeRec_of KX hcd) (hb _ _ _ _ ?_)
  refine wpAny_newFunctionEnv_cells S.kind kinds fun env he s1 x => ?_
  subst he
  refine ⟨(e0.mod.nolimit.keeps up).keeps x.toInCall.keep, codeAny_func ?_⟩
  obtain ⟨t, ht, hq⟩ := body cdv A outer s H vs Q E (hr.deeper _) hg hsp
  have I := inv_start (CX := C) (E := E) (base := base) (mg := mg) (K := K) S hr.hd e0 hl r x
  refine wpAny_mono (ht.run [] s1 (start N vs) H _ I hq) ?_ (fun e s' z => z)
  intro fl s' z
  cases fl with
  | next =>
    obtain ⟨σ', H', J, q⟩ := z
    exact ⟨V.non, H', J.os, J.bare, J.base, J.hok, rfl, q⟩
  | ret u =>
    obtain ⟨v, σ', H', J, rv, q⟩ := z
    exact ⟨v, H', J.os, J.bare, J.base, J.hok, rv, q⟩
  | brk => obtain ⟨_, _, _, q⟩ := z; exact q.elim
  | cont => obtain ⟨_, _, _, q⟩ := z; exact q.elim
end

section
variable {P : Program} {w : World} {K : PySem.W.Frag} {mg : Str → Option Value} {base : Heap} {k : Nat} {f : Addr} {fd : FuncData} {ps : List Str} {sp : Sp}
/-- a def that lets nothing out -/
theorem def_ok0 {x qual : Str} {st : Stmt} {N : List Str} (F : Fun K x qual st f fd) (S : FnScope N ps (defScope st))
    (len : ∀ vs H Q E, sp vs H Q E → vs.length = ps.length)
    (body : ∀ (cdv : Value) (A : Around) (outer : List Env) (s : Shared) (H : Hp) (vs : List V) (Q : VK) (E : XK),
      Room k (A.deeper (envOfC qual (defScope st) s.heap.objs.size f cdv)) → (A.deeper (envOfC qual (defScope st) s.heap.objs.size f cdv)).guards = some [] → sp vs H Q E →
      ∃ t, PSs (cxOf CX0 P w K mg base N qual (defScope st) f cdv A outer s H E).nox (defBody st) t ∧ t { nx := fun _ H' => Q .non H', rt := Q } (start N vs) H) :
    FnG P w K mg base CX0 (k + 1) f fd ps sp := by
  refine def_ok F S len fun cdv A outer s H vs Q E hr hg hsp => ?_
  obtain ⟨t, h, q⟩ := body cdv A outer s H vs Q E hr hg hsp
  exact ⟨t, h.nox, q⟩
end

section
variable {X : Cx} {C : CXT} {k : Nat} {f : Addr} {fd : FuncData} {ps ks : List Str} {sp : Sp} {E : XK} {x : Str} {p pos : Pos} {e : Expr} {es : List Expr} {kws : List Keyword} {t tk : TA}
theorem run_g {pins : List (Addr × Obj)} {σ : L2.St} {H : Hp} {s : Shared} {Q : VK} {args : Args} {us : List Value} {vs : List V} (F : FnG X.prog X.w X.K X.mg X.base C k f fd ps sp) (hr : Room k X.A) (hG : X.A.guards = some []) (hx : Passes C X E)
    (I : Inv X pins σ H s) (hb : BindsTo s fd args (ps.zip us)) (r : Vals vs us) (h : sp vs H Q E) :
    codeAny (model X.prog X.w) X.A (.call (.ref f) args) (fun r s' => match r with | .ok (.ret u) => EP X pins σ Q u s' | .ok _ => False | .error e => X.xe e s') s := by
  refine codeAny_mono (F.run X.A X.stack s H args us vs Q E hr hG I.env0 hb r h) ?_
  intro r s' hq
  cases r with
  | error e => exact hx pins σ H s e s' I hq
  | ok fl =>
    cases fl with
    | ret u => exact I.after hq
    | next => exact hq.elim
    | brk => exact hq.elim
    | cont => exact hq.elim
theorem mono_g {pins : List (Addr × Obj)} {σ : L2.St} {s : Shared} {Q : VK} {args : Args} (h : codeAny (model X.prog X.w) X.A (.call (.ref f) args) (fun r s' => match r with | .ok (.ret u) => EP X pins σ Q u s' | .ok _ => False | .error e => X.xe e s') s) :
    wpAny (model X.prog X.w) X.A (call (.ref f) args.pos args.kw) (EP X pins σ Q) X.xe s := by
  refine wpAny_call (codeAny_mono h ?_)
  intro r s' hq
  cases r with
  | error e => exact hq
  | ok fl =>
    cases fl with
    | ret u => exact hq
    | next => exact hq.elim
    | brk => exact hq.elim
    | cont => exact hq.elim
/-- f(a, ..) -/
theorem pe_cg (F : FnG X.prog X.w X.K X.mg X.base C k f fd ps sp) (hr : Room k X.A) (hG : X.A.guards = some []) (hg : Gl X x) (hm : X.mg x = some (.ref f)) (hk : PySem.W.keepIn X.K (.ref f) = true) (hb : Binds X.K fd ps []) (hx : Passes C X E)
    (ha : PA X (e :: es) t) (hdb : (x == ("__debug__" : Str)) = false := by decide) (he : starEach (e :: es) X.env = (false, eval e X.env) :: starEach es X.env := by rfl) (hpl : (backTo pos (starEach es X.env)).any (·.1) = false := by rfl) :
    PE X (.Call (.Name x p) (e :: es) [] pos) (tCall sp [] E t) := by
  refine ⟨fun pins s σ H Q I h => ?_⟩
  refine wpAny_Call_Name_kw (ld_glob I hg hm ?_ hdb)
  refine PySem.W.callWith_K (h₀ := X.base) I.ok.mod.kin hk (thn (ha.run pos pins s σ H _ I h) ?_) he hpl
  rintro us s1 ⟨vs, H1, I1, r, q⟩
  refine ⟨I1.kIn, ?_⟩
  have q' : sp vs H1 Q E := by rw [← List.append_nil vs]; exact q
  have hl : (us ++ []).length = ps.length := by rw [List.append_nil, ← r.length]; exact F.len _ _ _ _ q'
  have hb' := hb s1 us I1.kIn hl
  rw [List.append_nil] at hb'
  exact mono_g (args := ⟨us, []⟩) (run_g F hr hG hx I1 hb' r q')
/-- f(k = v, ..), keywords alone -/
theorem pe_cgk {g : List Value → List Value → List Value} {gV : List V → List V → List V} (F : FnG X.prog X.w X.K X.mg X.base C k f fd ps sp) (hr : Room k X.A) (hG : X.A.guards = some []) (hg : Gl X x) (hm : X.mg x = some (.ref f)) (hk : PySem.W.keepIn X.K (.ref f) = true) (hb : KBinds X.K fd ps ks g gV) (hx : Passes C X E)
    (hkw : PK X kws tk) (hall : (backToKw pos (keywordEach kws X.env)).all (·.1.isSome) = true := by rfl) (hks : (backToKw pos (keywordEach kws X.env)).filterMap (·.1) = ks := by rfl)
    (hdb : (x == ("__debug__" : Str)) = false := by decide)
    (hpl : ((backTo pos (starEach [] X.env)).any (·.1) || (backToKw pos (keywordEach kws X.env)).any (·.1.isNone)) = false := by rfl) :
    PE X (.Call (.Name x p) [] kws pos) (tCallK sp gV E tNil tk) := by
  refine ⟨fun pins s σ H Q I h => ?_⟩
  refine wpAny_Call_Name_kw (ld_glob I hg hm ?_ hdb)
  refine PySem.W.callWith_KW0 (h₀ := X.base) I.ok.mod.kin hk hall (thn (hkw.run pos pins s σ H _ I h) ?_) hpl
  rintro ws s2 ⟨zs, H2, I2, rz, q2⟩
  refine ⟨I2.kIn, ?_⟩
  rw [hks]
  have r2 := hb.rel .nil rz
  have hl : (g [] ws).length = ps.length := by rw [← r2.length]; exact F.len _ _ _ _ q2
  exact mono_g (args := ⟨[], ks.zip ws⟩) (run_g F hr hG hx I2 (hb.to s2 [] ws I2.kIn hl) r2 q2)

/-- a def of one parameter, called by its name -/
theorem kbind1 {K : PySem.W.Frag} {x qual : Str} {st : Stmt} {f : Addr} {fd : FuncData} {p : Str} (F : Fun K x qual st f fd)
    (h1 : ∀ (kV doc pm : Value) (an : Option Addr) (cdv ct v : Value), bindArgs (PySem.W.fnOf x qual (defArgs st) (defBody st) (defScope st) .none kV doc pm an cdv ct) ⟨[v], []⟩ = pure [(p, v)])
    (h2 : ∀ (kV doc pm : Value) (an : Option Addr) (cdv ct v : Value), bindArgs (PySem.W.fnOf x qual (defArgs st) (defBody st) (defScope st) .none kV doc pm an cdv ct) ⟨[], [(p, v)]⟩ = pure [(p, v)]) :
    KBinds K fd [p] [p] (fun us ws => us ++ ws) (fun us zs => us ++ zs) := by
  obtain ⟨oc, od, kV, doc, pm, an, cdv, ct, osl, rfl, lk, hcd⟩ := F.ex
  refine ⟨fun s us ws _ hl => ?_, fun r1 r2 => r1.append r2⟩
  have hl : (us ++ ws).length = 1 := hl
  match us, ws, hl with
  | [], [v], _ => exact .of_eq (h2 kV doc pm an cdv ct v)
  | [v], [], _ => exact .of_eq (h1 kV doc pm an cdv ct v)
  | [], [], hl => exact absurd hl (by decide)
  | [], x :: y :: r, hl => simp at hl
  | [x], y :: r, hl => simp at hl
  | x :: y :: r, ws, hl => simp at hl

/-! ### a word between what is reckoned and what follows: each way is joined -/
def tCutE (t : TE) : TE := fun σ H Q => ∃ φ : V → Hp → Prop, t σ H φ ∧ ∀ v H', φ v H' → Q v H'
def tCutT (t : TT) : TT := fun σ H Q => ∃ φ : Bool → Hp → Prop, t σ H φ ∧ ∀ b H', φ b H' → Q b H'
def tSeqC (t u : TS) : TS := fun D σ H => ∃ φ : L2.St → Hp → Prop, t { D with nx := φ } σ H ∧ ∀ σ' H', φ σ' H' → u D σ' H'
theorem pe_cut {te : TE} (h : PE X e te) : PE X e (tCutE te) := by
  refine ⟨fun pins s σ H Q I q => ?_⟩
  obtain ⟨φ, a, b⟩ := q
  refine thn (h.run pins s σ H φ I a) ?_
  rintro u s1 ⟨v, H1, I1, r, z⟩
  exact ⟨v, H1, I1, r, b v H1 z⟩
theorem pt_cut {tt : TT} (h : PT X e tt) : PT X e (tCutT tt) := by
  refine ⟨fun pins s σ H Q I q => ?_⟩
  obtain ⟨φ, a, b⟩ := q
  refine thn (h.run pins s σ H φ I a) ?_
  rintro u s1 ⟨H1, I1, z⟩
  exact ⟨H1, I1, b u H1 z⟩
theorem pss_join {st : Stmt} {rest : List Stmt} {ts us : TS} (h1 : PS X st ts) (h2 : PSs X rest us) : PSs X (st :: rest) (tSeqC ts us) := by
  refine ⟨fun pins s σ H D I h => ?_⟩
  obtain ⟨φ, a, b⟩ := h
  refine wpAny_execs_cons (thn (h1.run pins s σ H { D with nx := φ } I a) ?_)
  intro f s1 q
  cases f with
  | next =>
    obtain ⟨σ', H', I', z⟩ := q
    exact h2.run pins s1 σ' H' D I' (b σ' H' z)
  | ret v => exact q
  | brk => exact q
  | cont => exact q
end
end My

namespace My
open PySem PySem.Spec PyProof.Rows L2
/-- repr(x) of data -/
def rRep (K : PySem.W.Frag) : List V → Hp → VK → Prop := fun xs H Q => ∃ x d, xs = [x] ∧ Dp K H x d ∧ d.showable = true ∧ d.hasDict = false ∧ d.depth ≤ 60 ∧ d.shown.length ≤ sizeLine ∧
  (∀ i, d = .int i → i.natAbs.log2 < 1920) ∧ Q (.str d.shown) H
section
variable {X : Cx}
theorem call_rep (hG : X.A.guards = some []) (hu : X.A.units + 64 < cLine) : CallR X (.builtin "repr") (rRep X.K) := by
  intro pins s σ H xs us Q I r h
  obtain ⟨x, d, rfl, hd, hs, hn, hz, hl, hi, q⟩ := h
  obtain ⟨u, rfl, rx⟩ : ∃ u, us = [u] ∧ RelV x u := by
    cases r with
    | cons a b => cases b; exact ⟨_, rfl, a⟩
  have byRef : ∀ a, u = Value.ref a → wpAny (model X.prog X.w) X.A (call (.builtin "repr") [u]) (EP X pins σ Q) X.xe s := by
    rintro a rfl
    obtain ⟨as, rd⟩ := Dp.reads I d x _ hd rx
    refine repr_of_reads' rd hs (fun z => by rw [hn] at z; cases z) hG (by omega) (fun _ _ z => z) ?_ hl
    intro h' u tk hk
    exact ⟨.str _, H, I.kept hk, ⟨_, rfl⟩, q⟩
  cases hd with
  | non => cases rx; exact PySem.P.repr_of_none ⟨.str _, H, I.tok _, ⟨_, rfl⟩, q⟩
  | bl b =>
    cases rx
    refine PySem.P.repr_of_bool ⟨.str _, H, I.tok _, ⟨_, rfl⟩, ?_⟩
    cases b <;> exact q
  | int i =>
    obtain ⟨t, rfl⟩ := rx
    exact PySem.P.repr_of_int (hi i rfl) ⟨.str _, H, I.tok _, ⟨_, rfl⟩, q⟩
  | str y =>
    obtain ⟨t, rfl⟩ := rx
    exact PySem.P.repr_of_str ⟨.str _, H, I.tok _, ⟨_, rfl⟩, q⟩ hl
  | lst _ _ => cases rx; exact byRef _ rfl
  | tup _ _ => cases rx; exact byRef _ rfl
theorem call_repK {K : PySem.W.Frag} (hG : X.A.guards = some []) (hu : X.A.units + 64 < cLine) (hK : X.K = K := by rfl) : CallR X (.builtin "repr") (rRep K) := by
  rw [← hK]
  exact call_rep hG hu
end
end My

namespace My
open PySem PySem.Spec PyProof.Rows L2
/-- a constant of the module -/
theorem pe_gl {X : Cx} {x : Str} {pos : Pos} {v : V} (h : ∃ u, X.mg x = some u ∧ RelV v u) (hg : Gl X x := by rfl) (hd : (x == ("__debug__" : Str)) = false := by decide) : PE X (.Name x pos) (tC v) := by
  obtain ⟨u, hm, r⟩ := h
  exact pe_glob hg hm r hd
/-- a ** b of any sizes within the model's line -/
def CPowB (i j : Int) : Prop := 0 ≤ j ∧ (Builtin.Int.intBits i : Int) * j ≤ 2 ^ 27
theorem op_powB {X : Cx} : OpR X (binaryOp .Pow) (rI CPowB fun i j => .int (i ^ j.toNat)) := opI fun _ _ _ _ _ _ _ hc q => pow_int hc.1 hc.2 q
theorem bits_le {i : Int} {n : Nat} (h : i.natAbs < 2 ^ n) (h0 : 0 < n) : Builtin.Int.intBits i ≤ n := by
  unfold Builtin.Int.intBits
  split
  · omega
  · have := PySem.Flt.log2_lt_of h0 h
    omega
theorem powB {i j : Int} (n : Nat) (h : i.natAbs < 2 ^ n) (h0 : 0 < n) (hj : 0 ≤ j) (hb : (n : Int) * j ≤ 2 ^ 27) : CPowB i j := by
  refine ⟨hj, Int.le_trans (Int.mul_le_mul_of_nonneg_right ?_ hj) hb⟩
  have := bits_le h h0
  omega

/-! ### the draws -/
def But (p : Addr) (H H' : Hp) : Prop := ∀ b o, b ≠ p → H b = some o → H' b = some o
theorem But.refl (p : Addr) (H : Hp) : But p H H := fun _ _ _ h => h
theorem But.trans {p : Addr} {H H1 H2 : Hp} (a : But p H H1) (b : But p H1 H2) : But p H H2 := fun c o n h => b c o n (a c o n h)
theorem But.of {p : Addr} {H H' : Hp} (a : Same H H') : But p H H' := fun c o _ h => a c o h
theorem same_upd {H : Hp} {p : Addr} {o : HO} (h : H p = none) : Same H (upd H p o) := fun b x e => by
  rw [upd_ne (ne_of_none e h)]
  exact e
theorem But.upd {p : Addr} {H : Hp} {o : HO} : But p H (upd H p o) := fun b x n e => by
  rw [upd_ne n]
  exact e
theorem But.rd {p a : Addr} {H H' : Hp} {u : HO} (b : But p H H') (n : a ≠ p) (h : Rd H a u) : Rd H' a u := by
  rcases h with h | ⟨o, h⟩
  · exact .inl (b _ _ n h)
  · exact .inr ⟨o, b _ _ n h⟩
theorem But.seqL {K : PySem.W.Frag} {p a : Addr} {H H' : Hp} {xs : List V} (b : But p H H') (n : a ≠ p) (h : SqL K H a xs) : SqL K H' a xs := by
  rcases h with h | h
  · exact .inl (b.rd n h)
  · exact .inr h
theorem But.seqT {K : PySem.W.Frag} {p a : Addr} {H H' : Hp} {xs : List V} (b : But p H H') (n : a ≠ p) (h : SqT K H a xs) : SqT K H' a xs := by
  rcases h with h | h
  · exact .inl (b.rd n h)
  · exact .inr h
/-- the pot at p: what is left of the cell, the mixed number, how many were mixed: n at most -/
def PotAt (H : Hp) (p : Addr) (n : Nat) : Prop := ∃ own small cnt : Int, H p = some (.lst [.int own, .int small, .int cnt]) ∧
  0 ≤ own ∧ own < 2 ^ 1000 ∧ 0 ≤ small ∧ small < 2 ^ 61 ∧ 0 ≤ cnt ∧ cnt ≤ n
theorem PotAt.mono {H : Hp} {p : Addr} {n m : Nat} (h : PotAt H p n) (e : n ≤ m) : PotAt H p m := by
  obtain ⟨o, s, c, h1, h2, h3, h4, h5, h6, h7⟩ := h
  exact ⟨o, s, c, h1, h2, h3, h4, h5, h6, by omega⟩
theorem PotAt.same {H H' : Hp} {p : Addr} {n : Nat} (h : PotAt H p n) (e : Same H H') : PotAt H' p n := by
  obtain ⟨o, s, c, h1, h2⟩ := h
  exact ⟨o, s, c, e _ _ h1, h2⟩
/-- _law_take(pot, upto) -/
def spTake : Sp := fun vs H Q _ => ∃ (p : Addr) (upto : Int) (n : Nat), vs = [.ref p, .int upto] ∧ PotAt H p n ∧ n < 2 ^ 60 ∧ 0 < upto ∧ upto < 2 ^ 64 ∧
  ∀ i H', 0 ≤ i → i < upto → But p H H' → PotAt H' p (n + 1) → Q (.int i) H'
/-- _law_of(pot, some) -/
def spOf (K : PySem.W.Frag) : Sp := fun vs H Q _ => ∃ (p a : Addr) (xs : List V) (n : Nat), vs = [.ref p, .ref a] ∧ PotAt H p n ∧ n < 2 ^ 60 ∧ a ≠ p ∧ SqL K H a xs ∧ xs ≠ [] ∧ xs.length < 2 ^ 24 ∧
  ∀ x H', x ∈ xs → But p H H' → PotAt H' p (n + 1) → Q x H'
/-- _law_pot(script, place) -/
def spPot (K : PySem.W.Frag) : Sp := fun vs H Q _ => ∃ (a : Addr) (ns : List Int) (place : Int), vs = [.ref a, .int place] ∧ SqL K H a (ns.map V.int) ∧ ns.length ≤ 63 ∧
  (∀ z ∈ ns, Builtin.Int.intBits z ≤ 1048576) ∧ 0 ≤ place ∧ place ≤ 100 ∧ ∀ p H', Same H H' → H p = none → PotAt H' p 0 → Q (.ref p) H'
/-- _law_cells(script, most) -/
def spCells (K : PySem.W.Frag) : Sp := fun vs H Q _ => ∃ (a : Addr) (ns : List Int) (most : Int), vs = [.ref a, .int most] ∧ SqL K H a (ns.map V.int) ∧ ns.length ≤ 63 ∧ 0 ≤ most ∧ most ≤ 100 ∧
  ∀ (p : Addr) (H' : Hp) (m : Int), Same H H' → H p = none → 1 ≤ m → m ≤ 100 → H' p = some (.lst (rgV 0 m)) → Q (.ref p) H'
end My

namespace My
open PySem PySem.Spec PyProof.Rows L2
/-! ### the text -/
def topS (i : Nat) : Stmt := PySem.Challenge.pw_holdsfailsopen_k24_whole_numbers_as_text.main.body.getD i (.Pass ⟨0, 0, 0, 0⟩)
abbrev s_is_integer : Stmt := topS 15
abbrev s_is_name : Stmt := topS 16
abbrev s_is_state : Stmt := topS 17
abbrev s_common : Stmt := topS 18
abbrev s_is_fraction : Stmt := topS 19
abbrev s_read_integer : Stmt := topS 20
abbrev s_read_fraction : Stmt := topS 21
abbrev s_fraction_text : Stmt := topS 22
abbrev s__law_pot : Stmt := topS 24
abbrev s__law_take : Stmt := topS 25
abbrev s__law_of : Stmt := topS 26
abbrev s__law_cells : Stmt := topS 27
abbrev s__law_odd : Stmt := topS 28
abbrev s__law_integer : Stmt := topS 29
abbrev s__law_reduced : Stmt := topS 30
abbrev s__law_is_integer : Stmt := topS 31
abbrev s__law_read : Stmt := topS 32
abbrev s__law_is_name : Stmt := topS 33
abbrev s__law_word : Stmt := topS 34
abbrev s__law_right : Stmt := topS 35
abbrev s_law : Stmt := topS 36
theorem sc_is_integer : FnScope ["value"] ["value"] (defScope s_is_integer) := ⟨rfl, rfl, rfl, by decide +kernel, rfl, by decide +kernel, by decide +kernel⟩
theorem sc_is_name : FnScope ["value", "sign"] ["value"] (defScope s_is_name) := ⟨rfl, rfl, rfl, by decide +kernel, rfl, by decide +kernel, by decide +kernel⟩
theorem sc_is_state : FnScope ["value", "part"] ["value"] (defScope s_is_state) := ⟨rfl, rfl, rfl, by decide +kernel, rfl, by decide +kernel, by decide +kernel⟩
theorem sc_common : FnScope ["one", "other"] ["one", "other"] (defScope s_common) := ⟨rfl, rfl, rfl, by decide +kernel, rfl, by decide +kernel, by decide +kernel⟩
theorem sc_is_fraction : FnScope ["value"] ["value"] (defScope s_is_fraction) := ⟨rfl, rfl, rfl, by decide +kernel, rfl, by decide +kernel, by decide +kernel⟩
theorem sc_read_integer : FnScope ["word", "figures", "number", "sign"] ["word"] (defScope s_read_integer) := ⟨rfl, rfl, rfl, by decide +kernel, rfl, by decide +kernel, by decide +kernel⟩
theorem sc_read_fraction : FnScope ["word", "parts", "numbers", "found", "part"] ["word"] (defScope s_read_fraction) := ⟨rfl, rfl, rfl, by decide +kernel, rfl, by decide +kernel, by decide +kernel⟩
theorem sc_fraction_text : FnScope ["one"] ["one"] (defScope s_fraction_text) := ⟨rfl, rfl, rfl, by decide +kernel, rfl, by decide +kernel, by decide +kernel⟩
theorem sc__law_pot : FnScope ["script", "place", "cell", "own", "small"] ["script", "place"] (defScope s__law_pot) := ⟨rfl, rfl, rfl, by decide +kernel, rfl, by decide +kernel, by decide +kernel⟩
theorem sc__law_take : FnScope ["pot", "upto", "digit", "prime", "blend"] ["pot", "upto"] (defScope s__law_take) := ⟨rfl, rfl, rfl, by decide +kernel, rfl, by decide +kernel, by decide +kernel⟩
theorem sc__law_of : FnScope ["pot", "some"] ["pot", "some"] (defScope s__law_of) := ⟨rfl, rfl, rfl, by decide +kernel, rfl, by decide +kernel, by decide +kernel⟩
theorem sc__law_cells : FnScope ["script", "most"] ["script", "most"] (defScope s__law_cells) := ⟨rfl, rfl, rfl, by decide +kernel, rfl, by decide +kernel, by decide +kernel⟩
theorem sc__law_odd : FnScope ["pot", "some", "value", "lap"] ["pot"] (defScope s__law_odd) := ⟨rfl, rfl, rfl, by decide +kernel, rfl, by decide +kernel, by decide +kernel⟩
theorem sc__law_integer : FnScope ["pot", "figures", "lap"] ["pot"] (defScope s__law_integer) := ⟨rfl, rfl, rfl, by decide +kernel, rfl, by decide +kernel, by decide +kernel⟩
theorem sc__law_reduced : FnScope ["top", "low", "one", "other", "factor"] ["top", "low"] (defScope s__law_reduced) := ⟨rfl, rfl, rfl, by decide +kernel, rfl, by decide +kernel, by decide +kernel⟩
theorem sc__law_is_integer : FnScope ["value"] ["value"] (defScope s__law_is_integer) := ⟨rfl, rfl, rfl, by decide +kernel, rfl, by decide +kernel, by decide +kernel⟩
theorem sc__law_read : FnScope ["word", "parts", "numbers", "part", "figures", "sign"] ["word"] (defScope s__law_read) := ⟨rfl, rfl, rfl, by decide +kernel, rfl, by decide +kernel, by decide +kernel⟩
theorem sc__law_is_name : FnScope ["value", "words", "small", "sign"] ["value"] (defScope s__law_is_name) := ⟨rfl, rfl, rfl, by decide +kernel, rfl, by decide +kernel, by decide +kernel⟩
theorem sc__law_word : FnScope ["pot", "some"] ["pot"] (defScope s__law_word) := ⟨rfl, rfl, rfl, by decide +kernel, rfl, by decide +kernel, by decide +kernel⟩
theorem sc__law_right : FnScope ["pot", "top", "low", "one", "text", "some", "word", "value", "due", "words", "whole_one", "part", "lap"] ["pot"] (defScope s__law_right) := ⟨rfl, rfl, rfl, by decide +kernel, rfl, by decide +kernel, by decide +kernel⟩
theorem sc_law : FnScope ["script", "place", "pot", "lap"] ["script"] (defScope s_law) := ⟨rfl, rfl, rfl, by decide +kernel, rfl, by decide +kernel, by decide +kernel⟩
def linesW : List Str := ["machine", "letters", "start", "end", "floor", "clocks", "stay", "step", "product", "of", "claim", "if", "reset"]
def claimsW : List Str := ["never", "comes", "again", "reads", "empty", "within", "same", "atleast", "atmost", "costs", "mean", "equal", "alike"]
/-- what the top has written -/
structure Txt (K : PySem.W.Frag) (mg : Str → Option Value) (A : Nat → Addr) (D : Nat → FuncData) : Prop where
  F_is_integer : Fun K "is_integer" "is_integer" s_is_integer (A 0) (D 0)
  g_is_integer : mg "is_integer" = some (.ref (A 0))
  b_is_integer : Binds K (D 0) ["value"] []
  F_is_name : Fun K "is_name" "is_name" s_is_name (A 1) (D 1)
  g_is_name : mg "is_name" = some (.ref (A 1))
  b_is_name : Binds K (D 1) ["value"] []
  kb_is_name : KBinds K (D 1) ["value"] ["value"] (fun us ws => us ++ ws) (fun us zs => us ++ zs)
  F_is_state : Fun K "is_state" "is_state" s_is_state (A 2) (D 2)
  g_is_state : mg "is_state" = some (.ref (A 2))
  b_is_state : Binds K (D 2) ["value"] []
  kb_is_state : KBinds K (D 2) ["value"] ["value"] (fun us ws => us ++ ws) (fun us zs => us ++ zs)
  F_common : Fun K "common" "common" s_common (A 3) (D 3)
  g_common : mg "common" = some (.ref (A 3))
  b_common : Binds K (D 3) ["one", "other"] []
  F_is_fraction : Fun K "is_fraction" "is_fraction" s_is_fraction (A 4) (D 4)
  g_is_fraction : mg "is_fraction" = some (.ref (A 4))
  b_is_fraction : Binds K (D 4) ["value"] []
  kb_is_fraction : KBinds K (D 4) ["value"] ["value"] (fun us ws => us ++ ws) (fun us zs => us ++ zs)
  F_read_integer : Fun K "read_integer" "read_integer" s_read_integer (A 5) (D 5)
  g_read_integer : mg "read_integer" = some (.ref (A 5))
  b_read_integer : Binds K (D 5) ["word"] []
  F_read_fraction : Fun K "read_fraction" "read_fraction" s_read_fraction (A 6) (D 6)
  g_read_fraction : mg "read_fraction" = some (.ref (A 6))
  b_read_fraction : Binds K (D 6) ["word"] []
  kb_read_fraction : KBinds K (D 6) ["word"] ["word"] (fun us ws => us ++ ws) (fun us zs => us ++ zs)
  F_fraction_text : Fun K "fraction_text" "fraction_text" s_fraction_text (A 7) (D 7)
  g_fraction_text : mg "fraction_text" = some (.ref (A 7))
  b_fraction_text : Binds K (D 7) ["one"] []
  kb_fraction_text : KBinds K (D 7) ["one"] ["one"] (fun us ws => us ++ ws) (fun us zs => us ++ zs)
  F__law_pot : Fun K "_law_pot" "_law_pot" s__law_pot (A 8) (D 8)
  g__law_pot : mg "_law_pot" = some (.ref (A 8))
  b__law_pot : Binds K (D 8) ["script", "place"] []
  F__law_take : Fun K "_law_take" "_law_take" s__law_take (A 9) (D 9)
  g__law_take : mg "_law_take" = some (.ref (A 9))
  b__law_take : Binds K (D 9) ["pot", "upto"] []
  F__law_of : Fun K "_law_of" "_law_of" s__law_of (A 10) (D 10)
  g__law_of : mg "_law_of" = some (.ref (A 10))
  b__law_of : Binds K (D 10) ["pot", "some"] []
  F__law_cells : Fun K "_law_cells" "_law_cells" s__law_cells (A 11) (D 11)
  g__law_cells : mg "_law_cells" = some (.ref (A 11))
  b__law_cells : Binds K (D 11) ["script", "most"] []
  F__law_odd : Fun K "_law_odd" "_law_odd" s__law_odd (A 12) (D 12)
  g__law_odd : mg "_law_odd" = some (.ref (A 12))
  b__law_odd : Binds K (D 12) ["pot"] []
  F__law_integer : Fun K "_law_integer" "_law_integer" s__law_integer (A 13) (D 13)
  g__law_integer : mg "_law_integer" = some (.ref (A 13))
  b__law_integer : Binds K (D 13) ["pot"] []
  F__law_reduced : Fun K "_law_reduced" "_law_reduced" s__law_reduced (A 14) (D 14)
  g__law_reduced : mg "_law_reduced" = some (.ref (A 14))
  b__law_reduced : Binds K (D 14) ["top", "low"] []
  F__law_is_integer : Fun K "_law_is_integer" "_law_is_integer" s__law_is_integer (A 15) (D 15)
  g__law_is_integer : mg "_law_is_integer" = some (.ref (A 15))
  b__law_is_integer : Binds K (D 15) ["value"] []
  F__law_read : Fun K "_law_read" "_law_read" s__law_read (A 16) (D 16)
  g__law_read : mg "_law_read" = some (.ref (A 16))
  b__law_read : Binds K (D 16) ["word"] []
  F__law_is_name : Fun K "_law_is_name" "_law_is_name" s__law_is_name (A 17) (D 17)
  g__law_is_name : mg "_law_is_name" = some (.ref (A 17))
  b__law_is_name : Binds K (D 17) ["value"] []
  F__law_word : Fun K "_law_word" "_law_word" s__law_word (A 18) (D 18)
  g__law_word : mg "_law_word" = some (.ref (A 18))
  b__law_word : Binds K (D 18) ["pot"] []
  F__law_right : Fun K "_law_right" "_law_right" s__law_right (A 19) (D 19)
  g__law_right : mg "_law_right" = some (.ref (A 19))
  b__law_right : Binds K (D 19) ["pot"] []
  F_law : Fun K "law" "law" s_law (A 20) (D 20)
  g_law : mg "law" = some (.ref (A 20))
  b_law : Binds K (D 20) ["script"] []
  n_len : mg "len" = none
  n_int : mg "int" = none
  n_bool : mg "bool" = none
  n_str : mg "str" = none
  n_tuple : mg "tuple" = none
  n_list : mg "list" = none
  n_dict : mg "dict" = none
  n_abs : mg "abs" = none
  n_max : mg "max" = none
  n_min : mg "min" = none
  n_sum : mg "sum" = none
  n_all : mg "all" = none
  n_isinstance : mg "isinstance" = none
  n_range : mg "range" = none
  n_repr : mg "repr" = none
  c_SMALL : ∃ u, mg "SMALL" = some u ∧ RelV (.str "abcdefghijklmnopqrstuvwxyz") u
  c_FIGURES : ∃ u, mg "FIGURES" = some u ∧ RelV (.str "0123456789") u
  c_MOST_SIGNS : ∃ u, mg "MOST_SIGNS" = some u ∧ RelV (.int 8) u
  c_MOST_JOINED : ∃ u, mg "MOST_JOINED" = some u ∧ RelV (.int 60) u
  c_MOST_FIGURES : ∃ u, mg "MOST_FIGURES" = some u ∧ RelV (.int 300) u
  c_BEYOND : ∃ u, mg "BEYOND" = some u ∧ RelV (.int (10 ^ 300)) u
  c_MINUS : ∃ u, mg "MINUS" = some u ∧ RelV (.str "-") u
  c_DOT : ∃ u, mg "DOT" = some u ∧ RelV (.str ".") u
  c_SLASH : ∃ u, mg "SLASH" = some u ∧ RelV (.str "/") u
  c_LINES : ∃ u, mg "LINES" = some u ∧ RelV (.ref (A 100)) u
  c_CLAIMS : ∃ u, mg "CLAIMS" = some u ∧ RelV (.ref (A 101)) u
  t_LINES : ∀ H, SqT K H (A 100) (linesW.map V.str)
  t_CLAIMS : ∀ H, SqT K H (A 101) (claimsW.map V.str)
end My

namespace My
open PySem PySem.Spec PyProof.Rows L2
theorem fmod_lo {i u : Int} (h : 0 < u) : 0 ≤ i.fmod u := by rw [Int.fmod_eq_emod_of_nonneg _ (by omega)]; exact Int.emod_nonneg _ (by omega)
theorem fmod_hi {i u : Int} (h : 0 < u) : i.fmod u < u := by rw [Int.fmod_eq_emod_of_nonneg _ (by omega)]; exact Int.emod_lt_of_pos _ h
theorem abs_lt {i : Int} {n : Nat} (h0 : 0 ≤ i) (h : i < 2 ^ n) : i.natAbs < 2 ^ n := by
  have e : (i.natAbs : Int) = i := by omega
  have z : ((2 ^ n : Nat) : Int) = 2 ^ n := by simp
  omega
def primes : List V := [.int 2147483647, .int 2147483629, .int 2147483587, .int 2147483579, .int 2147483563]
theorem prime_at {i : Int} (h0 : 0 ≤ i) (h1 : i < 5) : ∃ pr : Int, atI primes i = some (.int pr) ∧ 0 < pr ∧ pr < 2 ^ 31 := by
  have c : i = 0 ∨ i = 1 ∨ i = 2 ∨ i = 3 ∨ i = 4 := by omega
  rcases c with rfl | rfl | rfl | rfl | rfl
  · exact ⟨2147483647, atI_nat (j := 0) rfl, by decide, by decide⟩
  · exact ⟨2147483629, atI_nat (j := 1) rfl, by decide, by decide⟩
  · exact ⟨2147483587, atI_nat (j := 2) rfl, by decide, by decide⟩
  · exact ⟨2147483579, atI_nat (j := 3) rfl, by decide, by decide⟩
  · exact ⟨2147483563, atI_nat (j := 4) rfl, by decide, by decide⟩
section
variable {P : Program} {w : World} {K : PySem.W.Frag} {mg : Str → Option Value} {base : Heap} {A : Nat → Addr} {D : Nat → FuncData}
theorem ok_take (T : Txt K mg A D) : FnG P w K mg base CX0 1 (A 9) (D 9) ["pot", "upto"] spTake := by
  refine def_ok0 T.F__law_take sc__law_take (fun vs H Q E h => ?_) (fun cdv Ar outer s H vs Q E hr hG h => ?_)
  · obtain ⟨p, u, n, rfl, _⟩ := h; rfl
  · obtain ⟨p, u, n, rfl, ⟨own, small, cnt, hp, h0, h1, h2, h3, h4, h5⟩, hn, hu, hu2, q⟩ := h
    refine ⟨_, (pss_cons (ps_if (pt_cmpR op_gt (pe_ix ix_list (pv 0) pe_int (fun _ _ => rfl)) pe_int (nomark _)) (pss_cons (ps_set (i := 2) sc__law_take.nd rfl (Or.inl rfl) (pe_op op_modN (pe_callTy call_int1 (by rfl) T.n_int (by decide +kernel) (pa_cons (pe_ix ix_list (pv 0) pe_int (fun _ _ => rfl)) pa_nil)) (pv 1)))
      (pss_cons (ps_asg (pe_op op_fdivW (pe_ix ix_list (pv 0) pe_int (fun _ _ => rfl)) (pv 1)) (pg_sub (pv 0) pe_int set_list))
      (pss_one (ps_ret (pv 2))))) pss_nil)
      (pss_cons (ps_asg (pe_op op_add (pe_ix ix_list (pv 0) pe_int (fun _ _ => rfl)) pe_int) (pg_sub (pv 0) pe_int set_list))
      (pss_cons (ps_set (i := 3) sc__law_take.nd rfl (Or.inl rfl) (pe_ix ix_list (pe_lst (pa_cons pe_int (pa_cons pe_int (pa_cons pe_int (pa_cons pe_int (pa_cons pe_int pa_nil)))))) (pe_op op_modN (pe_callTy call_int1 (by rfl) T.n_int (by decide +kernel) (pa_cons (pe_ix ix_list (pv 0) pe_int (fun _ _ => rfl)) pa_nil)) pe_int) (fun _ _ => rfl)))
      (pss_cons (ps_set (i := 4) sc__law_take.nd rfl (Or.inl rfl) (pe_op op_modN (pe_callTy call_int1 (by rfl) T.n_int (by decide +kernel) (pa_cons (pe_op op_powB (pe_callTy call_int1 (by rfl) T.n_int (by decide +kernel) (pa_cons (pe_op op_add (pe_op op_add (pe_ix ix_list (pv 0) pe_int (fun _ _ => rfl)) (pe_op op_mulW (pe_op op_mulW pe_int (pe_ix ix_list (pv 0) pe_int (fun _ _ => rfl))) (pe_ix ix_list (pv 0) pe_int (fun _ _ => rfl)))) pe_int) pa_nil)) pe_int) pa_nil)) (pv 3)))
      (pss_cons (ps_set (i := 4) sc__law_take.nd rfl (Or.inl rfl) (pe_op op_modN (pe_callTy call_int1 (by rfl) T.n_int (by decide +kernel) (pa_cons (pe_op op_mulW (pv 4) (pe_op op_add (pe_op op_modN (pe_callTy call_int1 (by rfl) T.n_int (by decide +kernel) (pa_cons (pv 4) pa_nil)) pe_int) (pe_op op_mulW pe_int (pe_ix ix_list (pv 0) pe_int (fun _ _ => rfl))))) pa_nil)) pe_int))
      (pss_one (ps_ret (pe_op op_modN (pe_callTy call_int1 (by rfl) T.n_int (by decide +kernel) (pa_cons (pe_op op_fdivW (pv 4) pe_int) pa_nil)) (pv 1))))))))), ?_⟩
    have at0 : ∀ x y z : V, atI [x, y, z] 0 = some x := fun _ _ _ => atI_nat (j := 0) rfl
    have at1 : ∀ x y z : V, atI [x, y, z] 1 = some y := fun _ _ _ => atI_nat (j := 1) rfl
    have at2 : ∀ x y z : V, atI [x, y, z] 2 = some z := fun _ _ _ => atI_nat (j := 2) rfl
    refine ⟨.ref p, rfl, p, _, 0, .int own, rfl, rfl, SqL.of hp, at0 _ _ _, own, 0, rfl, rfl, _, rfl, ite2 (fun e => ?_) (fun e => ?_)⟩
    · have e : 0 < own := of_decide_eq_true e
      refine ⟨.ref p, rfl, p, _, 0, .int own, rfl, rfl, SqL.of hp, at0 _ _ _, .inl ⟨own, rfl, .int u, rfl, own, u, rfl, rfl, (by show u ≠ 0; omega), ?_⟩⟩
      refine ⟨.ref p, rfl, p, _, 0, .int own, rfl, rfl, SqL.of hp, at0 _ _ _, .int u, rfl, own, u, rfl, rfl, wide_div hu (abs_lt (by omega) hu2) (by decide) (by decide), ?_⟩
      refine ⟨.ref p, rfl, p, _, 0, 0, rfl, rfl, hp, rfl, ?_⟩
      refine ⟨_, rfl, q _ _ (fmod_lo hu) (fmod_hi hu) But.upd ⟨own / u, small, cnt, upd_same, Int.ediv_nonneg h0 (by omega), ?_, h2, h3, h4, by omega⟩⟩
      exact Int.lt_of_le_of_lt (Int.ediv_le_self _ h0) h1
    · have hc : 0 ≤ cnt + 1 ∧ cnt + 1 < 2 ^ 61 := by omega
      have kc := abs_lt hc.1 hc.2
      have hp1 : (upd H p (.lst [.int own, .int small, .int (cnt + 1)])) p = some (.lst [.int own, .int small, .int (cnt + 1)]) := upd_same
      have b1 : But p H (upd H p (.lst [.int own, .int small, .int (cnt + 1)])) := But.upd
      refine ⟨.ref p, rfl, p, _, 2, .int cnt, rfl, rfl, SqL.of hp, at2 _ _ _, cnt, 1, rfl, rfl, .ref p, rfl, p, _, 2, 2, rfl, rfl, hp, rfl, ?_⟩
      refine ⟨(by show 5 ≤ sizeLine; decide), fun l hl => ?_⟩
      have npl : p ≠ l := ne_of_none hp1 hl
      have hp2 : (upd (upd H p (.lst [.int own, .int small, .int (cnt + 1)])) l (.lst primes)) p = some (.lst [.int own, .int small, .int (cnt + 1)]) := by rw [upd_ne npl]; exact hp1
      have b2 : But p H (upd (upd H p (.lst [.int own, .int small, .int (cnt + 1)])) l (.lst primes)) := b1.trans (But.of (same_upd hl))
      have r0 := fmod_lo (i := (cnt + 1)) (u := 5) (by decide)
      have r1 := fmod_hi (i := (cnt + 1)) (u := 5) (by decide)
      obtain ⟨pr, e1, e2, e3⟩ := prime_at r0 r1
      refine ⟨.ref p, rfl, p, _, 2, .int (cnt + 1), rfl, rfl, SqL.of hp2, at2 _ _ _, .inl ⟨(cnt + 1), rfl, (cnt + 1), 5, rfl, rfl, (show (5 : Int) ≠ 0 by decide), l, primes, (cnt + 1).fmod 5, .int pr, rfl, rfl, SqL.of upd_same, e1, ?_⟩⟩
      -- blend
      have m1 : CMulW 127151 (cnt + 1) := wide_mul (a := 20) (b := 61) (by decide) kc (by decide) (by decide) (by decide)
      have l1 : (127151 * (cnt + 1)).natAbs < 2 ^ (20 + 61) := wide_lt (by decide) kc
      have m2 : CMulW (127151 * (cnt + 1)) (cnt + 1) := wide_mul l1 kc (by decide) (by decide) (by decide)
      have l2 : (127151 * (cnt + 1) * (cnt + 1)).natAbs < 2 ^ (20 + 61 + 61) := wide_lt l1 kc
      have l3 : (small + 127151 * (cnt + 1) * (cnt + 1) + 7401).natAbs < 2 ^ 150 := by omega
      refine ⟨.ref p, rfl, p, _, 1, .int small, rfl, rfl, SqL.of hp2, at1 _ _ _, .ref p, rfl, p, _, 2, .int (cnt + 1), rfl, rfl, SqL.of hp2, at2 _ _ _, 127151, (cnt + 1), rfl, rfl, m1, ?_⟩
      refine ⟨.ref p, rfl, p, _, 2, .int (cnt + 1), rfl, rfl, SqL.of hp2, at2 _ _ _, _, (cnt + 1), rfl, rfl, m2, small, _, rfl, rfl, _, 7401, rfl, rfl, .inl ⟨_, rfl, _, 3, rfl, rfl, powB 150 l3 (by decide) (by decide) (by decide), .inl ⟨_, rfl, .int pr, rfl, _, pr, rfl, rfl, (by show pr ≠ 0; omega), ?_⟩⟩⟩
      have g0 := fmod_lo (i := (small + 127151 * (cnt + 1) * (cnt + 1) + 7401) ^ (3 : Int).toNat) e2
      have g1 := fmod_hi (i := (small + 127151 * (cnt + 1) * (cnt + 1) + 7401) ^ (3 : Int).toNat) e2
      obtain ⟨b, hb⟩ : ∃ b, b = ((small + 127151 * (cnt + 1) * (cnt + 1) + 7401) ^ (3 : Int).toNat).fmod pr := ⟨_, rfl⟩
      rw [← hb] at g0 g1
      have kb : b.natAbs < 2 ^ 31 := abs_lt g0 (by omega)
      have r2 := fmod_lo (i := b) (u := 34453) (by decide)
      have r3 := fmod_hi (i := b) (u := 34453) (by decide)
      have m3 : CMulW 4161 (cnt + 1) := wide_mul (a := 20) (b := 61) (by decide) kc (by decide) (by decide) (by decide)
      have l4 : (4161 * (cnt + 1)).natAbs < 2 ^ (20 + 61) := wide_lt (by decide) kc
      have l5 : (b.fmod 34453 + 4161 * (cnt + 1)).natAbs < 2 ^ 90 := by omega
      have m4 : CMulW b (b.fmod 34453 + 4161 * (cnt + 1)) := wide_mul kb l5 (by decide) (by decide) (by decide)
      refine ⟨_, rfl, _, rfl, .inl ⟨_, rfl, _, 34453, rfl, rfl, (show (34453 : Int) ≠ 0 by decide), .ref p, rfl, p, _, 2, .int (cnt + 1), rfl, rfl, SqL.of hp2, at2 _ _ _, 4161, (cnt + 1), rfl, rfl, m3, _, _, rfl, rfl, _, _, rfl, rfl, (by rw [← hb]; exact m4), .inl ⟨_, rfl, _, 2305843009213693907, rfl, rfl, (show (2305843009213693907 : Int) ≠ 0 by decide), ?_⟩⟩⟩
      refine ⟨_, rfl, _, 11059, rfl, rfl, wide_div (b := 14) (by decide) (by decide) (by decide) (by decide), .inl ⟨_, rfl, .int u, rfl, _, u, rfl, rfl, (by show u ≠ 0; omega), ?_⟩⟩
      exact q _ _ (fmod_lo hu) (fmod_hi hu) b2 ⟨own, small, (cnt + 1), hp2, h0, h1, h2, h3, by omega, by omega⟩
end
end My

namespace My
open PySem PySem.Spec PyProof.Rows L2
theorem cut_to1 (ns : List Int) : cutV (ns.map V.int) none (some 1) = (ns.take 1).map V.int := by
  unfold cutV
  cases ns with
  | nil => rfl
  | cons x r =>
    rw [HT.sIx_none, show HT.sIx ((x :: r).map V.int).length ((x :: r).map V.int).length (some 1) = min 1 ((x :: r).map V.int).length from HT.sIx_nat _ _ 1]
    rfl
theorem atI_some {xs : List V} {i : Int} (h0 : 0 ≤ i) (h1 : i < xs.length) : ∃ x, x ∈ xs ∧ atI xs i = some x := by
  obtain ⟨j, rfl⟩ : ∃ j : Nat, i = j := ⟨i.toNat, by omega⟩
  have hj : j < xs.length := by omega
  exact ⟨xs[j], List.getElem_mem hj, atI_nat (List.getElem?_eq_getElem hj)⟩
section
variable {P : Program} {w : World} {K : PySem.W.Frag} {mg : Str → Option Value} {base : Heap} {A : Nat → Addr} {D : Nat → FuncData}
theorem ok_of (T : Txt K mg A D) : FnG P w K mg base CX0 2 (A 10) (D 10) ["pot", "some"] (spOf K) := by
  have G__law_take := ok_take (P := P) (w := w) (base := base) T
  refine def_ok0 T.F__law_of sc__law_of (fun vs H Q E h => ?_) (fun cdv Ar outer s H vs Q E hr hG h => ?_)
  · obtain ⟨p, u, xs, n, rfl, _⟩ := h; rfl
  · obtain ⟨p, a, xs, n, rfl, hp, hn, ne, hS, hne, hz, q⟩ := h
    refine ⟨_, (pss_one (ps_ret (pe_ix ix_list (pv 1) (pe_cg G__law_take (hr.mono (by decide)) hG (by rfl) T.g__law_take T.F__law_take.kp T.b__law_take pass0 (pa_cons (pv 0) (pa_cons (pe_callB call_len_seq (by rfl) T.n_len PySem.boot_len (pa_cons (pv 1) pa_nil)) pa_nil))) (fun _ _ => rfl)))), ?_⟩
    have hl : 0 < xs.length := List.length_pos_iff.mpr hne
    refine ⟨.ref a, rfl, .ref p, rfl, .ref a, rfl, a, xs, rfl, .inl hS, ?_⟩
    refine ⟨p, xs.length, n, rfl, hp, hn, by omega, by omega, fun i H' h0 h1 b hp' => ?_⟩
    obtain ⟨x, hx, e⟩ := atI_some h0 h1
    exact ⟨a, xs, i, x, rfl, rfl, b.seqL ne hS, e, q x H' hx b hp'⟩
theorem ok_cells (T : Txt K mg A D) : FnG P w K mg base CX0 1 (A 11) (D 11) ["script", "most"] (spCells K) := by
  refine def_ok0 T.F__law_cells sc__law_cells (fun vs H Q E h => ?_) (fun cdv Ar outer s H vs Q E hr hG h => ?_)
  · obtain ⟨a, ns, m, rfl, _⟩ := h; rfl
  · obtain ⟨a, ns, m, rfl, hS, hl, h0, h1, q⟩ := h
    refine ⟨_, (pss_one (ps_ret (pe_listRg rfl (by rfl) T.n_list (prg_1 (by rfl) T.n_range (pe_callB (call_max2 rfl) (by rfl) T.n_max (by decide +kernel) (pa_cons pe_int (pa_cons (pe_callB (call_min2 rfl) (by rfl) T.n_min (by decide +kernel) (pa_cons (pv 1) (pa_cons (pe_callB call_len_seq (by rfl) T.n_len PySem.boot_len (pa_cons (pv 0) pa_nil)) pa_nil))) pa_nil))))))), ?_⟩
    have el : ((ns.map V.int).length : Int) = ns.length := by rw [List.length_map]
    refine ⟨.int m, rfl, .ref a, rfl, a, _, rfl, .inl hS, m, _, rfl, 1, _, rfl, _, rfl, ?_, ?_⟩
    · rw [el]; refine RgOk.of_le (by decide) ?_ (by decide) ?_ <;> (split <;> split <;> omega)
    · intro p hp
      refine q p _ _ (same_upd hp) hp ?_ ?_ upd_same <;> (rw [el]; split <;> split <;> omega)
theorem ok_pot (T : Txt K mg A D) : FnG P w K mg base CX0 1 (A 8) (D 8) ["script", "place"] (spPot K) := by
  refine def_ok0 T.F__law_pot sc__law_pot (fun vs H Q E h => ?_) (fun cdv Ar outer s H vs Q E hr hG h => ?_)
  · obtain ⟨a, ns, m, rfl, _⟩ := h; rfl
  · obtain ⟨a, ns, m, rfl, hS, hl, hb, h0, h1, q⟩ := h
    refine ⟨_, (pss_cons (ps_set (i := 2) sc__law_pot.nd rfl (Or.inl rfl) (pe_cut (pe_ifExp (pt_cmpR op_lt (pv 1) (pe_callB call_len_seq (by rfl) T.n_len PySem.boot_len (pa_cons (pv 0) pa_nil)) (nomark _)) (pe_ix ix_list (pv 0) (pv 1) (fun _ _ => rfl)) (pe_op op_add (pe_op op_add (pe_op op_modN (pe_callB (cr_sum rfl) (by rfl) T.n_sum (by decide +kernel) (pa_cons (pe_slice sl_list (pv 0) po_none (po_some pe_int)) pa_nil)) pe_int) (pe_op op_mulW pe_int (pv 1))) pe_int))))
      (pss_cons (ps_set (i := 3) sc__law_pot.nd rfl (Or.inl rfl) (pe_op op_mulW (pe_op op_modN (pe_callTy call_int1 (by rfl) T.n_int (by decide +kernel) (pa_cons (pe_callB call_abs (by rfl) T.n_abs (by decide +kernel) (pa_cons (pv 2) pa_nil)) pa_nil)) (pe_op op_powB (pe_op op_powB pe_int pe_int) pe_int)) (pe_callTy call_int1 (by rfl) T.n_int (by decide +kernel) (pa_cons (pe_cmpR op_ge (pe_callB call_abs (by rfl) T.n_abs (by decide +kernel) (pa_cons (pv 2) pa_nil)) (pe_op op_powB pe_int pe_int) (nomark _)) pa_nil))))
      (pss_cons (ps_set (i := 4) sc__law_pot.nd rfl (Or.inl rfl) (pe_op op_modN (pe_callTy call_int1 (by rfl) T.n_int (by decide +kernel) (pa_cons (pv 2) pa_nil)) pe_int))
      (pss_one (ps_ret (pe_lst (pa_cons (pv 3) (pa_cons (pe_op op_modN (pe_callTy call_int1 (by rfl) T.n_int (by decide +kernel) (pa_cons (pe_op op_add (pe_op op_add (pe_op op_mulW (pv 4) pe_int) (pe_op op_mulW (pe_op op_mulW pe_int (pv 1)) (pv 1))) pe_int) pa_nil)) pe_int) (pa_cons pe_int pa_nil))))))))), ?_⟩
    have el : ((ns.map V.int).length : Int) = ns.length := by rw [List.length_map]
    refine ⟨fun v H' => ∃ cell, v = .int cell ∧ Same H H', ?_, ?_⟩
    · refine ⟨.int m, rfl, .ref a, rfl, a, _, rfl, .inl hS, m, _, rfl, rfl, _, rfl, ite2 (fun e => ?_) (fun e => ?_)⟩
      · obtain ⟨x, hx, ex⟩ := atI_some h0 (of_decide_eq_true e)
        obtain ⟨z, hz, rfl⟩ := List.mem_map.mp hx
        exact ⟨.ref a, rfl, .int m, rfl, a, _, m, .int z, rfl, rfl, hS, ex, z, rfl, Same.refl _⟩
      · refine ⟨.ref a, rfl, 1, rfl, a, _, rfl, hS, fun c nc => ?_⟩
        refine ⟨c, ns.take 1, rfl, ?_, _, 1000003, rfl, rfl, (show (1000003 : Int) ≠ 0 by decide), .int m, rfl, 39053, m, rfl, rfl, ?_, _, _, rfl, rfl, _, 11459, rfl, rfl, _, rfl, same_upd nc⟩
        · rw [cut_to1] <;> exact SqL.of upd_same
        · exact wide_mul (a := 20) (b := 10) (by decide) (abs_lt h0 (by omega)) (by decide) (by decide) (by decide)
    · rintro v H1 ⟨cell, rfl, sm⟩
      have M0 : (0 : Int) < ((10 : Int) ^ (60 : Int).toNat) ^ (5 : Int).toNat := by decide +kernel
      have M1 : ((10 : Int) ^ (60 : Int).toNat) ^ (5 : Int).toNat < 2 ^ 1000 := by decide +kernel
      have pa : CPowB 10 60 := powB 10 (by decide) (by decide) (by decide) (by decide)
      have pb : CPowB ((10 : Int) ^ (60 : Int).toNat) 5 := powB 200 (by decide +kernel) (by decide) (by decide) (by decide)
      have pc : CPowB 10 18 := powB 10 (by decide) (by decide) (by decide) (by decide)
      refine ⟨.int cell, rfl, _, rfl, .inl ⟨_, rfl, 10, 60, rfl, rfl, pa, _, 5, rfl, rfl, pb, _, _, rfl, rfl, (Int.ne_of_gt M0), .int cell, rfl, _, rfl, 10, 18, rfl, rfl, pc, _, _, rfl, rfl, .inr ⟨_, rfl, ?_⟩⟩⟩
      obtain ⟨x, hx⟩ : ∃ x, x = (if cell < 0 then -cell else cell) := ⟨_, rfl⟩
      obtain ⟨bb, hbb⟩ : ∃ bb, bb = decide ((10 : Int) ^ (18 : Int).toNat ≤ x) := ⟨_, rfl⟩
      have g0 := fmod_lo (i := x) M0
      have g1 := fmod_hi (i := x) M0
      rw [hx] at hbb g0 g1
      have gb : (if bb = true then (1 : Int) else 0) = 0 ∨ (if bb = true then (1 : Int) else 0) = 1 := by cases bb <;> simp
      rw [hbb] at gb
      refine ⟨_, _, rfl, rfl, wide_mul (a := 1000) (b := 1) (abs_lt g0 (Int.lt_trans g1 M1)) (by rcases gb with z | z <;> rw [z] <;> decide) (by decide) (by decide) (by decide), ?_⟩
      obtain ⟨own, ho⟩ : ∃ own, own = ((if cell < 0 then -cell else cell).fmod (((10 : Int) ^ (60 : Int).toNat) ^ (5 : Int).toNat)) * (if decide ((10 : Int) ^ (18 : Int).toNat ≤ (if cell < 0 then -cell else cell)) = true then (1 : Int) else 0) := ⟨_, rfl⟩
      have ho0 : 0 ≤ own ∧ own < 2 ^ 1000 := by
        rw [ho]
        rcases gb with z | z <;> rw [z]
        · rw [Int.mul_zero]; exact ⟨by decide, by decide⟩
        · rw [Int.mul_one]; exact ⟨g0, Int.lt_trans g1 M1⟩
      refine ⟨.int cell, rfl, .inl ⟨_, rfl, _, 2305843009213693951, rfl, rfl, (show (2305843009213693951 : Int) ≠ 0 by decide), ?_⟩⟩
      have s0 := fmod_lo (i := cell) (u := 2305843009213693951) (by decide)
      have s1 := fmod_hi (i := cell) (u := 2305843009213693951) (by decide)
      have ks : (cell.fmod 2305843009213693951).natAbs < 2 ^ 61 := abs_lt s0 (by omega)
      have km : m.natAbs < 2 ^ 7 := abs_lt h0 (by omega)
      have kn : (28919 * m).natAbs < 2 ^ 22 := by omega
      refine ⟨_, rfl, _, rfl, _, 129959, rfl, rfl, wide_mul (b := 20) ks (by decide) (by decide) (by decide) (by decide), .int m, rfl, 28919, m, rfl, rfl, wide_mul (a := 20) (by decide) km (by decide) (by decide) (by decide), .int m, rfl, _, m, rfl, rfl, wide_mul kn km (by decide) (by decide) (by decide), _, _, rfl, rfl, _, 14307, rfl, rfl, .inl ⟨_, rfl, _, 2305843009213693921, rfl, rfl, (show (2305843009213693921 : Int) ≠ 0 by decide), (by show 3 ≤ sizeLine; decide), fun p hp => ?_⟩⟩
      have t0 := fmod_lo (i := cell.fmod 2305843009213693951 * 129959 + 28919 * m * m + 14307) (u := 2305843009213693921) (by decide)
      have t1 := fmod_hi (i := cell.fmod 2305843009213693951 * 129959 + 28919 * m * m + 14307) (u := 2305843009213693921) (by decide)
      refine q p _ (sm.trans (same_upd hp)) ?_ ⟨_, _, 0, upd_same, (by rw [← ho]; exact ho0.1), (by rw [← ho]; exact ho0.2), t0, by omega, by decide, by decide⟩
      exact sm.free hp
end
end My

namespace My
open PySem PySem.Spec PyProof.Rows L2
/-- values whose kind is known -/
inductive Known (H : Hp) : V → Prop where
  | non : Known H .non
  | bl (b : Bool) : Known H (.bl b)
  | int (i : Int) : Known H (.int i)
  | str (s : Str) : Known H (.str s)
  | lst {a : Addr} {xs : List V} (e : H a = some (.lst xs)) : Known H (.ref a)
  | tup {a : Addr} {xs : List V} (e : H a = some (.tup xs)) : Known H (.ref a)
  | dct {a : Addr} {kvs : List (Key × V)} (e : H a = some (.dK kvs)) : Known H (.ref a)
def isIntV : V → Bool
  | .int _ => true
  | _ => false
def isBlV : V → Bool
  | .bl _ => true
  | _ => false
def isStrV : V → Bool
  | .str _ => true
  | _ => false
theorem Known.kInt {K : PySem.W.Frag} {H : Hp} {x : V} (k : Known H x) : ∃ t, TyX K H x t ∧ PySem.W.kitOne K t (.type "int") = some (isIntV x || isBlV x) := by
  cases k with
  | non => exact ⟨_, .base .non, by rfl⟩
  | bl b => exact ⟨_, .base (.bl b), by rfl⟩
  | int i => exact ⟨_, .base (.int i), by rfl⟩
  | str s => exact ⟨_, .base (.str s), by rfl⟩
  | lst e => exact ⟨_, .base (.lst e), by rfl⟩
  | tup e => exact ⟨_, .base (.tup e), by rfl⟩
  | dct e => exact ⟨_, .base (.dK e), by rfl⟩
theorem Known.kBool {K : PySem.W.Frag} {H : Hp} {x : V} (k : Known H x) : ∃ t, TyX K H x t ∧ PySem.W.kitOne K t (.type "bool") = some (isBlV x) := by
  cases k with
  | non => exact ⟨_, .base .non, by rfl⟩
  | bl b => exact ⟨_, .base (.bl b), by rfl⟩
  | int i => exact ⟨_, .base (.int i), by rfl⟩
  | str s => exact ⟨_, .base (.str s), by rfl⟩
  | lst e => exact ⟨_, .base (.lst e), by rfl⟩
  | tup e => exact ⟨_, .base (.tup e), by rfl⟩
  | dct e => exact ⟨_, .base (.dK e), by rfl⟩
theorem Known.kStr {K : PySem.W.Frag} {H : Hp} {x : V} (k : Known H x) : ∃ t, TyX K H x t ∧ PySem.W.kitOne K t (.type "str") = some (isStrV x) := by
  cases k with
  | non => exact ⟨_, .base .non, by rfl⟩
  | bl b => exact ⟨_, .base (.bl b), by rfl⟩
  | int i => exact ⟨_, .base (.int i), by rfl⟩
  | str s => exact ⟨_, .base (.str s), by rfl⟩
  | lst e => exact ⟨_, .base (.lst e), by rfl⟩
  | tup e => exact ⟨_, .base (.tup e), by rfl⟩
  | dct e => exact ⟨_, .base (.dK e), by rfl⟩
theorem isInt_and {x : V} (z : (isIntV x || isBlV x) = true) : (!isBlV x) = isIntV x := by cases x <;> simp_all [isIntV, isBlV]
theorem isInt_no {x : V} (z : ¬ (isIntV x || isBlV x) = true) : isIntV x = false := by cases x <;> simp_all [isIntV, isBlV]
/-- no tuple -/
inductive NoTup (H : Hp) : V → Prop where
  | non : NoTup H .non
  | bl (b : Bool) : NoTup H (.bl b)
  | int (i : Int) : NoTup H (.int i)
  | str (s : Str) : NoTup H (.str s)
  | lst {a : Addr} {xs : List V} (e : H a = some (.lst xs)) : NoTup H (.ref a)
  | dct {a : Addr} {kvs : List (Key × V)} (e : H a = some (.dK kvs)) : NoTup H (.ref a)
theorem NoTup.kTup {K : PySem.W.Frag} {H : Hp} {x : V} (k : NoTup H x) : ∃ t, TyX K H x t ∧ PySem.W.kitOne K t (.type "tuple") = some false := by
  cases k with
  | non => exact ⟨_, .base .non, by rfl⟩
  | bl b => exact ⟨_, .base (.bl b), by rfl⟩
  | int i => exact ⟨_, .base (.int i), by rfl⟩
  | str s => exact ⟨_, .base (.str s), by rfl⟩
  | lst e => exact ⟨_, .base (.lst e), by rfl⟩
  | dct e => exact ⟨_, .base (.dK e), by rfl⟩
theorem kTup {K : PySem.W.Frag} {H : Hp} {a : Addr} {xs : List V} (e : H a = some (.tup xs)) : ∃ t, TyX K H (.ref a) t ∧ PySem.W.kitOne K t (.type "tuple") = some true := ⟨_, .base (.tup e), by rfl⟩
theorem Known.same {H H' : Hp} {x : V} (k : Known H x) (s : Same H H') : Known H' x := by
  cases k with
  | non => exact .non
  | bl b => exact .bl b
  | int i => exact .int i
  | str z => exact .str z
  | lst e => exact .lst (s _ _ e)
  | tup e => exact .tup (s _ _ e)
  | dct e => exact .dct (s _ _ e)
/-- is_integer(value), whichever of both -/
def spInt : Sp := fun vs H Q _ => ∃ x, vs = [x] ∧ Known H x ∧ Q (.bl (isIntV x)) H
section
variable {P : Program} {w : World} {K : PySem.W.Frag} {mg : Str → Option Value} {base : Heap} {A : Nat → Addr} {D : Nat → FuncData}
theorem ok_int (T : Txt K mg A D) : FnG P w K mg base CX0 1 (A 0) (D 0) ["value"] spInt := by
  refine def_ok0 T.F_is_integer sc_is_integer (fun vs H Q E h => ?_) (fun cdv Ar outer s H vs Q E hr hG h => ?_)
  · obtain ⟨x, rfl, _⟩ := h; rfl
  · obtain ⟨x, rfl, k, q⟩ := h
    refine ⟨_, (pss_one (ps_ret (pe_and (pe_callB call_isi (by rfl) T.n_isinstance (by decide +kernel) (pa_cons (pv 0) (pa_cons (pe_bltn (v := .ty "int") (by rfl) T.n_int (by decide +kernel) rfl) pa_nil))) (pe_one (pe_not (pe_callB call_isi (by rfl) T.n_isinstance (by decide +kernel) (pa_cons (pv 0) (pa_cons (pe_bltn (v := .ty "bool") (by rfl) T.n_bool (by decide +kernel) rfl) pa_nil)))))))), ?_⟩
    obtain ⟨t, ty, e1⟩ := k.kInt (K := K)
    obtain ⟨t2, ty2, e2⟩ := k.kBool (K := K)
    refine ⟨x, rfl, x, .ty "int", t, _, _, rfl, .ty _, ty, e1, _, rfl, ?_⟩
    by_cases z : (isIntV x || isBlV x) = true
    · rw [if_pos z]
      refine ⟨x, rfl, x, .ty "bool", t2, _, _, rfl, .ty _, ty2, e2, _, rfl, ?_⟩
      have e := isInt_and z
      rw [e]; exact q
    · rw [if_neg z]
      have e := isInt_no z
      rw [e] at q; exact q
theorem ok_lint (T : Txt K mg A D) : FnG P w K mg base CX0 1 (A 15) (D 15) ["value"] spInt := by
  refine def_ok0 T.F__law_is_integer sc__law_is_integer (fun vs H Q E h => ?_) (fun cdv Ar outer s H vs Q E hr hG h => ?_)
  · obtain ⟨x, rfl, _⟩ := h; rfl
  · obtain ⟨x, rfl, k, q⟩ := h
    refine ⟨_, (pss_one (ps_ret (pe_and (pe_callB call_isi (by rfl) T.n_isinstance (by decide +kernel) (pa_cons (pv 0) (pa_cons (pe_bltn (v := .ty "int") (by rfl) T.n_int (by decide +kernel) rfl) pa_nil))) (pe_one (pe_not (pe_callB call_isi (by rfl) T.n_isinstance (by decide +kernel) (pa_cons (pv 0) (pa_cons (pe_bltn (v := .ty "bool") (by rfl) T.n_bool (by decide +kernel) rfl) pa_nil)))))))), ?_⟩
    obtain ⟨t, ty, e1⟩ := k.kInt (K := K)
    obtain ⟨t2, ty2, e2⟩ := k.kBool (K := K)
    refine ⟨x, rfl, x, .ty "int", t, _, _, rfl, .ty _, ty, e1, _, rfl, ?_⟩
    by_cases z : (isIntV x || isBlV x) = true
    · rw [if_pos z]
      refine ⟨x, rfl, x, .ty "bool", t2, _, _, rfl, .ty _, ty2, e2, _, rfl, ?_⟩
      have e := isInt_and z
      rw [e]; exact q
    · rw [if_neg z]
      have e := isInt_no z
      rw [e] at q; exact q
end
end My

namespace My
open PySem PySem.Spec PyProof.Rows L2
/-- // by any divisor but 0, of fewer than 9000 bits -/
def CDivX (_ j : Int) : Prop := j ≠ 0 ∧ j.natAbs.log2 < 9000
theorem op_fdivX {X : Cx} : OpR X (binaryOp .FloorDiv) (rI CDivX fun i j => .int (i.fdiv j)) := opI fun i j _ _ _ _ _ hc q =>
  floordiv_int hc.1 q (.inl (PyProof.noPylong_of_log2 hc.2))
theorem divX {i j : Int} {b : Nat} (h : j ≠ 0) (hb : j.natAbs < 2 ^ b) (h0 : 0 < b) (h9 : b ≤ 9000) : CDivX i j := ⟨h, Nat.lt_of_lt_of_le (PySem.Flt.log2_lt_of h0 hb) h9⟩
def spCommon : Sp := fun vs H Q _ => ∃ a b : Int, vs = [.int a, .int b] ∧ Q (.int ((Int.gcd a b : Nat) : Int)) H
def redF (b : Int) (g : Int) : Int := if 0 < b then g else -g
def redu (a b : Int) : Int × Int := (a.fdiv (redF b (Int.gcd a b : Nat)), b.fdiv (redF b (Int.gcd a b : Nat)))
def spRed : Sp := fun vs H Q _ => ∃ a b : Int, vs = [.int a, .int b] ∧ b ≠ 0 ∧ a.natAbs < 2 ^ 2000 ∧ b.natAbs < 2 ^ 2000 ∧
  ∀ p H', Same H H' → H p = none → H' p = some (.tup [.int (redu a b).1, .int (redu a b).2]) → Q (.ref p) H'
theorem abs_if (a : Int) : (if a < 0 then -a else a) = ((a.natAbs : Nat) : Int) := by split <;> omega
theorem gcd_turn {x y : Nat} : Nat.gcd y (x % y) = Nat.gcd x y := by
  rw [Nat.gcd_comm y (x % y), Nat.gcd_comm x y]
  exact (Nat.gcd_rec y x).symm
theorem fmod_nat {x y : Nat} (h : y ≠ 0) : (x : Int).fmod (y : Int) = ((x % y : Nat) : Int) := by
  rw [Int.fmod_eq_emod_of_nonneg _ (by omega)]; rfl
section
variable {P : Program} {w : World} {K : PySem.W.Frag} {mg : Str → Option Value} {base : Heap} {A : Nat → Addr} {D : Nat → FuncData}
theorem ok_common (T : Txt K mg A D) : FnG P w K mg base CX0 1 (A 3) (D 3) ["one", "other"] spCommon := by
  refine def_ok0 T.F_common sc_common (fun vs H Q E h => ?_) (fun cdv Ar outer s H vs Q E hr hG h => ?_)
  · obtain ⟨a, b, rfl, _⟩ := h; rfl
  · obtain ⟨a, b, rfl, q⟩ := h
    refine ⟨_, (pss_cons (ps_par (i := 0) (j := 1) (by rfl) sc_common.nd rfl rfl (by decide) rfl rfl (pa_cons (pe_callB call_abs (by rfl) T.n_abs (by decide +kernel) (pa_cons (pv 0) pa_nil)) (pa_cons (pe_callB call_abs (by rfl) T.n_abs (by decide +kernel) (pa_cons (pv 1) pa_nil)) pa_nil)) (by rfl))
      (pss_cons (ps_while PassesOwn.never (pt_cmpR op_ne (pv 1) pe_int (nomark _)) (pss_one (ps_par (i := 0) (j := 1) (by rfl) sc_common.nd rfl rfl (by decide) rfl rfl (pa_cons (pv 1) (pa_cons (pe_op op_modN (pv 0) (pv 1)) pa_nil)) (by rfl))))
      (pss_one (ps_ret (pv 0))))), ?_⟩
    refine ⟨.int a, rfl, a, rfl, .int b, rfl, b, rfl, _, _, rfl, ?_⟩
    rw [abs_if a, abs_if b]
    refine while_by (fun σ H' => ∃ x y : Nat, σ = [some (.int x), some (.int y)] ∧ Nat.gcd x y = Int.gcd a b ∧ H' = H)
      (fun σ _ => match σ with | [_, some (.int y)] => y.natAbs | _ => 0) ⟨_, _, rfl, rfl, rfl⟩ ?_ ?_
    · rintro σ H' ⟨x, y, rfl, eg, rfl⟩
      refine ⟨_, rfl, rfl, _, rfl, ite2 (fun e => ?_) (fun e => ?_)⟩
      · have hy : y ≠ 0 := by
          intro z
          subst z
          simp at e
        refine ⟨_, rfl, _, rfl, _, rfl, _, _, rfl, rfl, (show ((y : Nat) : Int) ≠ 0 by omega), _, _, rfl, ?_⟩
        refine ⟨⟨y, x % y, ?_, by rw [gcd_turn]; exact eg, rfl⟩, ?_⟩
        · show [some (V.int y), some (V.int ((x : Int).fmod (y : Int)))] = _
          rw [fmod_nat hy]
        · show ((x : Int).fmod (y : Int)).natAbs < ((y : Nat) : Int).natAbs
          rw [fmod_nat hy]
          have := Nat.mod_lt x (Nat.pos_of_ne_zero hy)
          omega
      · have hy : y = 0 := by
          have e2 : V.int (y : Int) = V.int 0 := by
            simpa using e
          have e3 := V.int.inj e2
          omega
        subst hy
        rw [Nat.gcd_zero_right] at eg
        subst eg
        exact ⟨_, rfl, q⟩
    · rintro σ H' Q1 Q2 hh ⟨v, e, sc, k, ek, q⟩
      exact ⟨v, e, sc, k, ek, hh _ _ q⟩
theorem ok_red (T : Txt K mg A D) : FnG P w K mg base CX0 1 (A 14) (D 14) ["top", "low"] spRed := by
  refine def_ok0 T.F__law_reduced sc__law_reduced (fun vs H Q E h => ?_) (fun cdv Ar outer s H vs Q E hr hG h => ?_)
  · obtain ⟨a, b, rfl, _⟩ := h; rfl
  · obtain ⟨a, b, rfl, hb, ka, kb, q⟩ := h
    refine ⟨_, (pss_cons (ps_par (i := 2) (j := 3) (by rfl) sc__law_reduced.nd rfl rfl (by decide) rfl rfl (pa_cons (pe_callB call_abs (by rfl) T.n_abs (by decide +kernel) (pa_cons (pv 0) pa_nil)) (pa_cons (pe_callB call_abs (by rfl) T.n_abs (by decide +kernel) (pa_cons (pv 1) pa_nil)) pa_nil)) (by rfl))
      (pss_cons (ps_while PassesOwn.never (pt_cmpR op_ne (pv 3) pe_int (nomark _)) (pss_one (ps_par (i := 2) (j := 3) (by rfl) sc__law_reduced.nd rfl rfl (by decide) rfl rfl (pa_cons (pv 3) (pa_cons (pe_op op_modN (pv 2) (pv 3)) pa_nil)) (by rfl))))
      (pss_cons (ps_set (i := 4) sc__law_reduced.nd rfl (Or.inl rfl) (pe_cut (pe_ifExp (pt_cmpR op_gt (pv 1) pe_int (nomark _)) (pv 2) (pe_un un_neg (pv 2)))))
      (pss_one (ps_ret (pe_tup (pa_cons (pe_callTy call_int1 (by rfl) T.n_int (by decide +kernel) (pa_cons (pe_op op_fdivX (pv 0) (pv 4)) pa_nil)) (pa_cons (pe_callTy call_int1 (by rfl) T.n_int (by decide +kernel) (pa_cons (pe_op op_fdivX (pv 1) (pv 4)) pa_nil)) pa_nil)))))))), ?_⟩
    refine ⟨.int a, rfl, a, rfl, .int b, rfl, b, rfl, _, _, rfl, ?_⟩
    rw [abs_if a, abs_if b]
    refine while_by (fun σ H' => ∃ x y : Nat, σ = [some (.int a), some (.int b), some (.int x), some (.int y), none] ∧ Nat.gcd x y = Int.gcd a b ∧ H' = H)
      (fun σ _ => match σ with | [_, _, _, some (.int y), _] => y.natAbs | _ => 0) ⟨_, _, rfl, rfl, rfl⟩ ?_ ?_
    · rintro σ H' ⟨x, y, rfl, eg, rfl⟩
      refine ⟨_, rfl, rfl, _, rfl, ite2 (fun e => ?_) (fun e => ?_)⟩
      · have hy : y ≠ 0 := by
          intro z
          subst z
          simp at e
        refine ⟨_, rfl, _, rfl, _, rfl, _, _, rfl, rfl, (show ((y : Nat) : Int) ≠ 0 by omega), _, _, rfl, ?_⟩
        refine ⟨⟨y, x % y, ?_, by rw [gcd_turn]; exact eg, rfl⟩, ?_⟩
        · show [some (V.int a), some (V.int b), some (V.int y), some (V.int ((x : Int).fmod (y : Int))), none] = _
          rw [fmod_nat hy]
        · show ((x : Int).fmod (y : Int)).natAbs < ((y : Nat) : Int).natAbs
          rw [fmod_nat hy]
          have := Nat.mod_lt x (Nat.pos_of_ne_zero hy)
          omega
      · have hy : y = 0 := by
          have e2 : V.int (y : Int) = V.int 0 := by
            simpa using e
          have e3 := V.int.inj e2
          omega
        subst hy
        rw [Nat.gcd_zero_right] at eg
        subst eg
        refine ⟨fun v H1 => v = .int (redF b (Int.gcd a b : Nat)) ∧ H1 = H', ?_, ?_⟩
        · refine ⟨.int b, rfl, b, 0, rfl, rfl, _, rfl, ite2 (fun e => ?_) (fun e => ?_)⟩
          · have e := of_decide_eq_true e
            refine ⟨_, rfl, ?_, rfl⟩
            unfold redF; rw [if_pos e]
          · have e : ¬ (0 < b) := fun z => e (decide_eq_true z)
            refine ⟨_, rfl, _, rfl, ?_, rfl⟩
            unfold redF; rw [if_neg e]
        · rintro v H1 ⟨rfl, rfl⟩
          have hg : 0 < Int.gcd a b := Int.gcd_pos_of_ne_zero_right _ hb
          have hgl : Int.gcd a b ≤ b.natAbs := Nat.le_of_dvd (by omega) (Int.gcd_dvd_natAbs_right ..)
          have f0 : redF b (Int.gcd a b : Nat) ≠ 0 := by unfold redF; split <;> omega
          have fa : (redF b (Int.gcd a b : Nat)).natAbs = Int.gcd a b := by unfold redF; split <;> omega
          have cd : ∀ i, CDivX i (redF b (Int.gcd a b : Nat)) := fun i => divX (b := 2000) f0 (by omega) (by decide) (by decide)
          refine ⟨.int a, rfl, _, rfl, a, _, rfl, rfl, cd a, .inl ⟨_, rfl, .int b, rfl, _, rfl, b, _, rfl, rfl, cd b, .inl ⟨_, rfl, (by show 2 ≤ sizeLine; decide), fun p hp => ?_⟩⟩⟩
          exact q p _ (same_upd hp) hp upd_same
    · rintro σ H' Q1 Q2 hh ⟨v, e, sc, k, ek, q⟩
      exact ⟨v, e, sc, k, ek, hh _ _ q⟩
end
end My

namespace My
open PySem PySem.Spec PyProof.Rows L2
def isFracL : List V → Bool
  | [.int a, .int b] => decide (1 ≤ b) && decide (((Int.gcd a b : Nat) : Int) = 1)
  | _ => false
/-- is_fraction(value) -/
def spFrac : Sp := fun vs H Q _ => ∃ v, vs = [v] ∧ ((∃ (a : Addr) (xs : List V), v = .ref a ∧ H a = some (.tup xs) ∧ (∀ x ∈ xs, Known H x) ∧ Q (.bl (isFracL xs)) H) ∨ (NoTup H v ∧ Q (.bl false) H))
theorem isInt_of {x : V} (h : isIntV x = true) : ∃ i, x = .int i := by
  cases x <;> simp [isIntV] at h
  exact ⟨_, rfl⟩
section
variable {P : Program} {w : World} {K : PySem.W.Frag} {mg : Str → Option Value} {base : Heap} {A : Nat → Addr} {D : Nat → FuncData}
theorem ok_frac (T : Txt K mg A D) : FnG P w K mg base CX0 2 (A 4) (D 4) ["value"] spFrac := by
  have G_is_integer := ok_int (P := P) (w := w) (base := base) T
  have G_common := ok_common (P := P) (w := w) (base := base) T
  refine def_ok0 T.F_is_fraction sc_is_fraction (fun vs H Q E h => ?_) (fun cdv Ar outer s H vs Q E hr hG h => ?_)
  · obtain ⟨a, rfl, _⟩ := h; rfl
  · obtain ⟨v, rfl, h⟩ := h
    refine ⟨_, (pss_cons (ps_if (PW.pt (pw_or (pt_not (pt_val (pe_callB call_isi (by rfl) T.n_isinstance (by decide +kernel) (pa_cons (pv 0) (pa_cons (pe_bltn (v := .ty "tuple") (by rfl) T.n_tuple (by decide +kernel) rfl) pa_nil))))) (pw_or (pt_cmpR op_ne (pe_callB call_len_seq (by rfl) T.n_len PySem.boot_len (pa_cons (pv 0) pa_nil)) pe_int (nomark _)) (pw_or (pt_not (pt_val (pe_cg G_is_integer (hr.mono (by decide)) hG (by rfl) T.g_is_integer T.F_is_integer.kp T.b_is_integer pass0 (pa_cons (pe_ix ix_tup (pv 0) pe_int (fun _ _ => rfl)) pa_nil)))) (pw_or1 (pt_not (pt_val (pe_cg G_is_integer (hr.mono (by decide)) hG (by rfl) T.g_is_integer T.F_is_integer.kp T.b_is_integer pass0 (pa_cons (pe_ix ix_tup (pv 0) pe_int (fun _ _ => rfl)) pa_nil))))))))) (pss_one (ps_ret pe_bl)) pss_nil)
      (pss_one (ps_ret (pe_and (pe_cmpR op_ge (pe_ix ix_tup (pv 0) pe_int (fun _ _ => rfl)) pe_int (nomark _)) (pe_one (pe_cmpR op_eq (pe_cg G_common (hr.mono (by decide)) hG (by rfl) T.g_common T.F_common.kp T.b_common pass0 (pa_cons (pe_ix ix_tup (pv 0) pe_int (fun _ _ => rfl)) (pa_cons (pe_ix ix_tup (pv 0) pe_int (fun _ _ => rfl)) pa_nil))) pe_int (nomark _))))))), ?_⟩
    rcases h with ⟨a, xs, rfl, ha, hk, q⟩ | ⟨nt, q⟩
    · obtain ⟨t, ty, e1⟩ := kTup (K := K) ha
      have at0 : ∀ x y : V, atI [x, y] 0 = some x := fun _ _ => atI_nat (j := 0) rfl
      have at1 : ∀ x y : V, atI [x, y] 1 = some y := fun _ _ => atI_nat (j := 1) rfl
      refine ⟨_, rfl, _, .ty "tuple", t, _, _, rfl, .ty _, ty, e1, _, rfl, ?_⟩
      refine ⟨_, rfl, a, xs, rfl, .inr (SqT.of ha), rfl, _, rfl, ?_⟩
      by_cases hl : xs.length = 2
      · obtain ⟨x, y, rfl⟩ : ∃ x y, xs = [x, y] := by
          match xs, hl with
          | [x, y], _ => exact ⟨x, y, rfl⟩
        have hx := hk x (by simp)
        have hy := hk y (by simp)
        refine ⟨_, rfl, a, _, 0, x, rfl, rfl, SqT.of ha, at0 _ _, x, rfl, hx, _, rfl, ?_⟩
        cases ex : isIntV x with
        | false =>
          refine cast (congrArg (fun z => Q (.bl z) H) ?_) q
          cases x <;> first | rfl | (exact absurd ex (by simp [isIntV]))
        | true =>
          obtain ⟨i, rfl⟩ := isInt_of ex
          refine ⟨_, rfl, a, _, 1, y, rfl, rfl, SqT.of ha, at1 _ _, y, rfl, hy, _, rfl, ?_⟩
          cases ey : isIntV y with
          | false =>
            refine cast (congrArg (fun z => Q (.bl z) H) ?_) q
            cases y <;> first | rfl | (exact absurd ey (by simp [isIntV]))
          | true =>
            obtain ⟨j, rfl⟩ := isInt_of ey
            refine ⟨_, rfl, a, _, 1, .int j, rfl, rfl, SqT.of ha, at1 _ _, j, 1, rfl, rfl, _, rfl, ite2 (fun e => ?_) (fun e => ?_)⟩
            · refine ⟨_, rfl, a, _, 0, .int i, rfl, rfl, SqT.of ha, at0 _ _, _, rfl, a, _, 1, .int j, rfl, rfl, SqT.of ha, at1 _ _, i, j, rfl, rfl, ?_⟩
              refine cast (congrArg (fun z => Q (.bl z) H) ?_) q
              show (decide (1 ≤ j) && decide (((Int.gcd i j : Nat) : Int) = 1)) = decide (V.int (Int.gcd i j : Nat) = V.int 1)
              rw [e, Bool.true_and]
              exact decide_eq_decide.mpr ⟨fun z => by rw [z], fun z => V.int.inj z⟩
            · refine cast (congrArg (fun z => Q (.bl z) H) ?_) q
              show (decide (1 ≤ j) && decide (((Int.gcd i j : Nat) : Int) = 1)) = false
              rw [Bool.eq_false_iff.mpr e, Bool.false_and]
      · have hn : (!decide (V.int (xs.length : Int) = V.int 2)) = true := by
          simp only [Bool.not_eq_true', decide_eq_false_iff_not]
          intro z
          have := V.int.inj z
          omega
        rw [hn]
        refine cast (congrArg (fun z => Q (.bl z) H) ?_) q
        match xs, hl with
        | [], _ => rfl
        | [x], _ => cases x <;> rfl
        | [x, y], h => exact absurd rfl h
        | x :: y :: z :: r, _ => cases x <;> first | rfl | (cases y <;> rfl)
    · obtain ⟨t, ty, e1⟩ := nt.kTup (K := K)
      refine ⟨_, rfl, _, .ty "tuple", t, _, _, rfl, .ty _, ty, e1, _, rfl, ?_⟩
      exact q
end
end My

namespace My
open PySem PySem.Spec PyProof.Rows L2
/-! ### comprehensions of truth values -/
theorem wipe1 (σ : L2.St) (j : Nat) : wipe σ [j] = σ.set j none := rfl
theorem take_step {α : Type} {l : List α} {i : Nat} {x : α} (h : l[i]? = some x) : l.take (i + 1) = l.take i ++ [x] := by
  rw [List.take_add_one, h]; rfl
/-- over a text -/
theorem lcB_str {x : Str} {te : TE} {j : Nat} {σ : L2.St} {H1 : Hp} {D : Addr} {Qd : Hp → Prop} (f : Nat → Bool) (hD : H1 D = none) (hz : x.length < sizeLine)
    (he : ∀ c, c ∈ x.cps.toList → ∀ (H : Hp) (Q : VK), Same H1 H → (∀ H', Same H H' → Q (.bl (f c)) H') → te ((σ.set j none).set j (some (.str ⟨#[c]⟩))) H Q)
    (hd : ∀ H, Same H1 H → H D = some (.lst ((x.cps.toList.map f).map V.bl)) → Qd H) :
    ∃ W : Nat → Nat → Hp → Prop, (∃ m, W 0 m (upd H1 D (.lst []))) ∧ ∀ i m H, W i m H →
      ((Its x).stop i H ∧ Qd H) ∨ ((Its x).go i H ∧ ∃ Nx : Hp → Prop, (∀ H', Nx H' → ∃ m', m' < m ∧ W (i + 1) m' H') ∧ ∀ y H', (Its x).yld i H y H' → gName j y (wipe σ [j]) H' fun σ2 H2 => wipe σ2 [j] = wipe σ [j] ∧ tYes σ2 H2 fun b H3 =>
        if b = true then te σ2 H3 fun z H4 => ∃ acc, H4 D = some (.lst acc) ∧ acc.length < sizeLine ∧ Nx (upd H4 D (.lst (acc ++ [z]))) else Nx H3) := by
  have sz : x.cps.toList.length = x.length := Array.length_toList
  refine ⟨fun i m H => m = x.length - i ∧ i ≤ x.length ∧ Same H1 H ∧ H D = some (.lst (((x.cps.toList.take i).map f).map V.bl)), ⟨x.length, by simp, Nat.zero_le _, same_upd hD, upd_same⟩, ?_⟩
  rintro i m H ⟨rfl, hi, sm, hl⟩
  by_cases hlt : i < x.length
  · have hc : x.cps.toList[i]? = some x.cps.toList[i] := List.getElem?_eq_getElem (by omega)
    refine .inr ⟨hlt, fun H' => Same H1 H' ∧ H' D = some (.lst (((x.cps.toList.take (i + 1)).map f).map V.bl)), fun H' p => ⟨x.length - (i + 1), by omega, rfl, hlt, p.1, p.2⟩, fun y H' yl => ?_⟩
    obtain ⟨rfl, c, ec, rfl⟩ := yl
    have ec2 : x.cps.toList[i]? = some c := by rw [Array.getElem?_toList]; exact ec
    refine ⟨by simp [wipe1, List.set_set], ?_⟩
    refine he c (List.mem_of_getElem? ec2) H' _ sm fun H2 s2 => ?_
    refine ⟨_, s2 _ _ hl, ?_, fun b o e => ?_, ?_⟩
    · rw [List.length_map, List.length_map, List.length_take]; omega
    · rw [upd_ne (ne_of_none e hD)]; exact s2 _ _ (sm _ _ e)
    · rw [upd_same, take_step ec2, List.map_append, List.map_append]; rfl
  · have e : i = x.length := by omega
    subst e
    refine .inl ⟨Nat.le_refl _, hd H sm ?_⟩
    rw [hl, ← sz, List.take_length]
/-- over a list of texts -/
theorem lcB_list {K : PySem.W.Frag} {a : Addr} {ys : List Str} {te : TE} {j : Nat} {σ : L2.St} {H1 : Hp} {D : Addr} {Qd : Hp → Prop} (f : Str → Bool) (hD : H1 D = none) (hS : SqL K H1 a (ys.map V.str)) (hz : ys.length < sizeLine)
    (he : ∀ y, y ∈ ys → ∀ (H : Hp) (Q : VK), Same H1 H → (∀ H', Same H H' → Q (.bl (f y)) H') → te ((σ.set j none).set j (some (.str y))) H Q)
    (hd : ∀ H, Same H1 H → H D = some (.lst ((ys.map f).map V.bl)) → Qd H) :
    ∃ W : Nat → Nat → Hp → Prop, (∃ m, W 0 m (upd H1 D (.lst []))) ∧ ∀ i m H, W i m H →
      ((Itl K a).stop i H ∧ Qd H) ∨ ((Itl K a).go i H ∧ ∃ Nx : Hp → Prop, (∀ H', Nx H' → ∃ m', m' < m ∧ W (i + 1) m' H') ∧ ∀ y H', (Itl K a).yld i H y H' → gName j y (wipe σ [j]) H' fun σ2 H2 => wipe σ2 [j] = wipe σ [j] ∧ tYes σ2 H2 fun b H3 =>
        if b = true then te σ2 H3 fun z H4 => ∃ acc, H4 D = some (.lst acc) ∧ acc.length < sizeLine ∧ Nx (upd H4 D (.lst (acc ++ [z]))) else Nx H3) := by
  refine lc_list (K := K) (a := a) (xs := ys.map V.str) (vs := [j]) (fun i H => Same H1 H ∧ H D = some (.lst (((ys.take i).map f).map V.bl))) ⟨same_upd hD, upd_same⟩ (fun i H _ p => p.1.seq hS) ?_ ?_
  · rintro i x H hx ⟨sm, hl⟩
    obtain ⟨y, ey, rfl⟩ : ∃ y, ys[i]? = some y ∧ x = V.str y := by
      rw [List.getElem?_map] at hx
      cases e : ys[i]? with
      | none => rw [e] at hx; cases hx
      | some z => rw [e] at hx; exact ⟨z, rfl, (Option.some.inj hx).symm⟩
    refine ⟨by simp [wipe1, List.set_set], ?_⟩
    refine he y (List.mem_of_getElem? ey) H _ sm fun H2 s2 => ?_
    refine ⟨_, s2 _ _ hl, ?_, fun b o e => ?_, ?_⟩
    · rw [List.length_map, List.length_map, List.length_take]; omega
    · rw [upd_ne (ne_of_none e hD)]; exact s2 _ _ (sm _ _ e)
    · rw [upd_same, take_step ey, List.map_append, List.map_append]; rfl
  · rintro H ⟨sm, hl⟩
    rw [List.length_map, List.take_length] at hl
    exact hd H sm hl
theorem all_id (l : List Bool) : l.all id = l.all (fun b => b) := rfl
theorem all_map {α : Type} (f : α → Bool) (l : List α) : (l.map f).all id = l.all f := by rw [List.all_map]; rfl
end My

namespace My
open PySem PySem.Spec PyProof.Rows L2
theorem str_eq {x y : Str} (h : x.cps.toList = y.cps.toList) : x = y := by
  cases x; cases y
  simp only at h
  rw [Array.toList_inj] at h
  rw [h]
theorem cut_hd (s : Str) : (cutS s none (some 1)).cps.toList = s.cps.toList.take 1 := by
  have e : s.cps.toList.length = s.length := Array.length_toList
  unfold cutS
  rw [HT.sIx_none, show HT.sIx s.length s.length (some 1) = min 1 s.length from HT.sIx_nat _ _ 1]
  show (s.cps.toList.drop 0).take (min 1 s.length - 0) = _
  rw [List.drop_zero, Nat.sub_zero, ← e]
  cases s.cps.toList with
  | nil => rfl
  | cons x r => rw [List.length_cons, show min 1 (r.length + 1) = 1 by omega]
theorem cut_tl (s : Str) : (cutS s (some 1) none).cps.toList = s.cps.toList.drop 1 := by
  have e : s.cps.toList.length = s.length := Array.length_toList
  unfold cutS
  rw [HT.sIx_none, show HT.sIx s.length 0 (some 1) = min 1 s.length from HT.sIx_nat _ _ 1]
  show (s.cps.toList.drop (min 1 s.length)).take (s.length - min 1 s.length) = _
  rw [← e]
  cases s.cps.toList with
  | nil => rfl
  | cons x r =>
    rw [List.length_cons, show min 1 (r.length + 1) = 1 by omega]
    show r.take (r.length + 1 - 1) = r
    rw [Nat.add_sub_cancel, List.take_length]
def fig (s : Str) : Str := if cutS s none (some 1) = "-" then cutS s (some 1) none else s
def digS (c : Nat) : Bool := decide (c ∈ ("0123456789" : Str).cps.toList)
def okFig (s : Str) : Bool := (decide (1 ≤ (fig s).length) && decide ((fig s).length ≤ 300)) && (fig s).cps.toList.all digS
def readInt (s : Str) : Option Int := if okFig s = true then (match intText? s with | some n => if (toString n : Str) = s then some n else none | none => none) else none
def optI : Option Int → V
  | none => .non
  | some n => .int n
theorem dig_iff (c : Nat) : digS c = true ↔ 48 ≤ c ∧ c ≤ 57 := by
  unfold digS
  rw [show ("0123456789" : Str).cps.toList = [48, 49, 50, 51, 52, 53, 54, 55, 56, 57] from rfl, decide_eq_true_iff]
  simp only [List.mem_cons, List.not_mem_nil, or_false]
  omega
theorem minus_cps : ("-" : Str).cps.toList = [45] := rfl
theorem fig_of (s : Str) : (∃ r, s.cps.toList = 45 :: r ∧ (fig s).cps.toList = r) ∨ (fig s = s ∧ ∀ r, s.cps.toList ≠ 45 :: r) := by
  unfold fig
  split
  · rename_i h
    have h2 := cut_hd s
    rw [h, minus_cps] at h2
    left
    cases e : s.cps.toList with
    | nil => rw [e] at h2; simp at h2
    | cons x r =>
      rw [e] at h2
      simp at h2
      subst h2
      exact ⟨r, rfl, by rw [cut_tl, e]; rfl⟩
  · rename_i h
    right
    refine ⟨rfl, fun r e => h (str_eq ?_)⟩
    rw [cut_hd, e, minus_cps]; rfl
theorem digits_lt : ∀ (cs : List Nat) (a : Nat), NumText.AllDigits cs → cs.foldl (fun acc c => acc * 10 + (c - 48)) a < (a + 1) * 10 ^ cs.length
  | [], a, _ => by simp
  | c :: cs, a, h => by
    have hc := h.head
    have ih := digits_lt cs (a * 10 + (c - 48)) h.tail
    rw [List.foldl_cons, List.length_cons]
    refine Nat.lt_of_lt_of_le ih ?_
    rw [Nat.pow_succ, Nat.mul_comm (10 ^ cs.length) 10, ← Nat.mul_assoc]
    exact Nat.mul_le_mul_right _ (by omega)
theorem ten_le {n : Nat} (h : n ≤ 300) : 10 ^ n < 2 ^ 1000 := Nat.lt_of_le_of_lt (Nat.pow_le_pow_right (by decide) h) (by decide +kernel)
theorem fig_val {s : Str} (h : okFig s = true) : ∃ n, intText? s = some n ∧ n.natAbs < 2 ^ 1000 ∧ s.length ≤ 301 := by
  unfold okFig at h
  rw [Bool.and_eq_true, Bool.and_eq_true] at h
  obtain ⟨⟨h1, h2⟩, h3⟩ := h
  have h1 := of_decide_eq_true h1
  have h2 := of_decide_eq_true h2
  have el : (fig s).cps.toList.length = (fig s).length := Array.length_toList
  have es : s.cps.toList.length = s.length := Array.length_toList
  have had : NumText.AllDigits (fig s).cps.toList := fun c hc => (dig_iff c).mp (List.all_eq_true.mp h3 c hc)
  have bound : NumText.digitsVal (fig s).cps.toList < 2 ^ 1000 := by
    have b := digits_lt (fig s).cps.toList 0 had
    unfold NumText.digitsVal
    refine Nat.lt_trans b ?_
    rw [Nat.zero_add, Nat.one_mul]
    exact ten_le (by omega)
  rcases fig_of s with ⟨r, e1, e2⟩ | ⟨e1, _⟩
  · rw [e2] at had bound el
    rw [e1] at es
    simp only [List.length_cons] at es
    have hr : r ≠ [] := by
      intro z; subst z
      simp at el; omega
    exact ⟨_, intText_neg e1 had hr (by omega), by rw [Int.natAbs_neg]; exact bound, by omega⟩
  · rw [e1] at had bound el h1 h2
    have hr : s.cps.toList ≠ [] := by
      intro z
      rw [z] at es; simp at es; omega
    exact ⟨_, intText_digits had hr (by omega), bound, by omega⟩
theorem readInt_of {s : Str} {n : Int} (h : okFig s = true) (e : intText? s = some n) : readInt s = if (toString n : Str) = s then some n else none := by
  unfold readInt
  rw [if_pos h, e]
theorem readInt_no {s : Str} (h : ¬ okFig s = true) : readInt s = none := by
  unfold readInt
  rw [if_neg h]
end My

namespace My
open PySem PySem.Spec PyProof.Rows L2
/-- read_integer(word) -/
def spRI : Sp := fun vs H Q _ => ∃ w : Str, vs = [.str w] ∧ w.length < 2 ^ 20 ∧ ∀ H', Same H H' → Q (optI (readInt w)) H'
theorem small20 {n : Nat} (h : n < 2 ^ 20) : n ≤ sizeLine := by rw [sizeLine_eq]; omega
theorem small20' {n : Nat} (h : n < 2 ^ 20) : n < sizeLine := by rw [sizeLine_eq]; omega
theorem fig_len (s : Str) : (fig s).length ≤ s.length := by
  have es : s.cps.toList.length = s.length := Array.length_toList
  have el : (fig s).cps.toList.length = (fig s).length := Array.length_toList
  rcases fig_of s with ⟨r, e1, e2⟩ | ⟨e1, _⟩
  · rw [e1] at es
    rw [e2] at el
    simp only [List.length_cons] at es
    omega
  · rw [e1]; exact Nat.le_refl _
section
variable {P : Program} {w : World} {K : PySem.W.Frag} {mg : Str → Option Value} {base : Heap} {A : Nat → Addr} {D : Nat → FuncData}
theorem ok_ri (T : Txt K mg A D) : FnG P w K mg base CX0 1 (A 5) (D 5) ["word"] spRI := by
  refine def_ok0 T.F_read_integer sc_read_integer (fun vs H Q E h => ?_) (fun cdv Ar outer s H vs Q E hr hG h => ?_)
  · obtain ⟨a, rfl, _⟩ := h; rfl
  · obtain ⟨wd, rfl, hl, q⟩ := h
    refine ⟨_, (pss_cons (ps_set (i := 1) sc_read_integer.nd rfl (Or.inl rfl) (pe_cut (pe_ifExp (pt_cmpR op_eq (pe_slice sl_str (pv 0) po_none (po_some pe_int)) (pe_gl T.c_MINUS) (nomark _)) (pe_slice sl_str (pv 0) (po_some pe_int) po_none) (pv 0))))
      (pss_cons (ps_if (pt_cut (PW.pt (pw_or (pt_not (pt_chain op_le op_le pe_int (pe_callB call_len_str (by rfl) T.n_len PySem.boot_len (pa_cons (pv 1) pa_nil)) (pe_gl T.c_MOST_FIGURES))) (pw_or1 (pt_not (pt_val (pe_callB (cr_all rfl) (by rfl) T.n_all (by decide +kernel) (pa_cons (pe_lc (own := [("sign", 3)]) (g := gName 3) (tt := tYes) (by rfl) sc_read_integer.nd (pi_str (pv 1)) (blkOk_by (own := [("sign", 3)]) (N := ["word", "figures", "number", "sign"]) (sc := defScope s_read_integer) (by decide +kernel)) (fun _ _ _ _ _ => pg_name (i := 3) sc_read_integer.nd rfl (Or.inl rfl)) (fun _ _ _ _ _ => pts_nil) (fun _ _ _ _ _ => (pe_cmpR op_in_sign (pv 3) (pe_gl T.c_FIGURES) rfl))) pa_nil)))))))) (pss_one (ps_ret pe_non)) pss_nil)
      (pss_cons (ps_set (i := 2) sc_read_integer.nd rfl (Or.inl rfl) (pe_callTy call_int_str (by rfl) T.n_int (by decide +kernel) (pa_cons (pv 0) pa_nil)))
      (pss_one (ps_ret (pe_ifExp (pt_cmpR op_eq (pe_callTy call_str_int (by rfl) T.n_str (by decide +kernel) (pa_cons (pv 2) pa_nil)) (pv 0) (nomark _)) (pv 2) pe_non)))))), ?_⟩
    refine ⟨fun v H1 => v = .str (fig wd) ∧ H1 = H, ?_, ?_⟩
    · refine ⟨.str wd, rfl, 1, rfl, wd, rfl, small20 hl, rfl, _, rfl, ite2 (fun e => ?_) (fun e => ?_)⟩
      · have e : cutS wd none (some 1) = "-" := V.str.inj (of_decide_eq_true e)
        refine ⟨.str wd, rfl, 1, rfl, wd, rfl, small20 hl, ?_, rfl⟩
        unfold fig; rw [if_pos e]
      · refine ⟨.str wd, rfl, ?_, rfl⟩
        unfold fig; rw [if_neg]
        intro z
        exact e (decide_eq_true (by rw [z]))
    · rintro v H1 ⟨rfl, rfl⟩
      have hf : (fig wd).length < 2 ^ 20 := Nat.lt_of_le_of_lt (fig_len wd) hl
      refine ⟨fun b H2 => b = !okFig wd ∧ Same H1 H2, ?_, ?_⟩
      · refine ⟨.str (fig wd), rfl, fig wd, rfl, small20 hf, 1, _, rfl, rfl, _, rfl, ite2 (fun e => ?_) (fun e => ?_)⟩
        · have e := of_decide_eq_true e
          refine ⟨_, 300, rfl, rfl, _, rfl, ite2 (fun e2 => ?_) (fun e2 => ?_)⟩
          · refine ⟨?_, Same.refl _⟩
            have e3 : ¬ (((fig wd).length : Int) ≤ 300) := by simpa using e2
            unfold okFig
            rw [decide_eq_false (show ¬ ((fig wd).length ≤ 300) by omega), Bool.and_false, Bool.false_and]; rfl
          · have e3 : ((fig wd).length : Int) ≤ 300 := by simpa using e2
            refine ⟨_, rfl, _, rfl, fun D hD => lcB_str (x := fig wd) (j := 3) digS hD (small20' hf) (fun c hc H Q sm k => ⟨_, rfl, c, _, rfl, rfl, k H (Same.refl _)⟩) (fun H2 sm hL => ?_)⟩
            refine ⟨_, _, rfl, SqL.of hL, _, rfl, ?_, sm⟩
            rw [all_map]
            unfold okFig
            rw [decide_eq_true (show 1 ≤ (fig wd).length by omega), decide_eq_true (show (fig wd).length ≤ 300 by omega), Bool.true_and, Bool.true_and]
        · refine ⟨_, rfl, ?_, Same.refl _⟩
          have e3 : ¬ ((1 : Int) ≤ ((fig wd).length : Int)) := by simpa using e
          unfold okFig
          rw [decide_eq_false (show ¬ (1 ≤ (fig wd).length) by omega), Bool.false_and, Bool.false_and]; rfl
      · rintro b H2 ⟨rfl, sm⟩
        refine ite2 (fun e => ?_) (fun e => ?_)
        · rw [readInt_no (by simpa using e)] at q
          exact q _ sm
        · have ok : okFig wd = true := by simpa using e
          obtain ⟨n, e1, e2, e3⟩ := fig_val ok
          rw [readInt_of ok e1] at q
          refine ⟨.str wd, rfl, wd, n, rfl, e1, by omega, ?_⟩
          refine ⟨_, rfl, n, rfl, Nat.lt_of_lt_of_le (PySem.Flt.log2_lt_of (by decide) e2) (by decide), .str wd, rfl, rfl, _, rfl, ite2 (fun e => ?_) (fun e => ?_)⟩
          · have e4 : (toString n : Str) = wd := V.str.inj (of_decide_eq_true e)
            rw [if_pos e4] at q
            exact ⟨_, rfl, q _ sm⟩
          · rw [if_neg (fun z => e (decide_eq_true (congrArg V.str z)))] at q
            exact q _ sm
end
end My

namespace My
open PySem PySem.Spec PyProof.Rows L2
/-- over a list, any values that are reckoned from the items alone -/
theorem lcV_list {α : Type} {K : PySem.W.Frag} {a : Addr} {ys : List α} {te : TE} {j : Nat} {σ : L2.St} {H1 : Hp} {D : Addr} {Qd : Hp → Prop} (g f : α → V) (hD : H1 D = none) (hS : SqL K H1 a (ys.map g)) (hz : ys.length < sizeLine)
    (he : ∀ y, y ∈ ys → ∀ (H : Hp) (Q : VK), Same H1 H → (∀ H', Same H H' → Q (f y) H') → te ((σ.set j none).set j (some (g y))) H Q)
    (hd : ∀ H, Same H1 H → H D = some (.lst (ys.map f)) → Qd H) :
    ∃ W : Nat → Nat → Hp → Prop, (∃ m, W 0 m (upd H1 D (.lst []))) ∧ ∀ i m H, W i m H →
      ((Itl K a).stop i H ∧ Qd H) ∨ ((Itl K a).go i H ∧ ∃ Nx : Hp → Prop, (∀ H', Nx H' → ∃ m', m' < m ∧ W (i + 1) m' H') ∧ ∀ y H', (Itl K a).yld i H y H' → gName j y (wipe σ [j]) H' fun σ2 H2 => wipe σ2 [j] = wipe σ [j] ∧ tYes σ2 H2 fun b H3 =>
        if b = true then te σ2 H3 fun z H4 => ∃ acc, H4 D = some (.lst acc) ∧ acc.length < sizeLine ∧ Nx (upd H4 D (.lst (acc ++ [z]))) else Nx H3) := by
  refine lc_list (K := K) (a := a) (xs := ys.map g) (vs := [j]) (fun i H => Same H1 H ∧ H D = some (.lst ((ys.take i).map f))) ⟨same_upd hD, upd_same⟩ (fun i H _ p => p.1.seq hS) ?_ ?_
  · rintro i x H hx ⟨sm, hl⟩
    obtain ⟨y, ey, rfl⟩ : ∃ y, ys[i]? = some y ∧ x = g y := by
      rw [List.getElem?_map] at hx
      cases e : ys[i]? with
      | none => rw [e] at hx; cases hx
      | some z => rw [e] at hx; exact ⟨z, rfl, (Option.some.inj hx).symm⟩
    refine ⟨by simp [wipe1, List.set_set], ?_⟩
    refine he y (List.mem_of_getElem? ey) H _ sm fun H2 s2 => ?_
    refine ⟨_, s2 _ _ hl, ?_, fun b o e => ?_, ?_⟩
    · rw [List.length_map, List.length_take]; omega
    · rw [upd_ne (ne_of_none e hD)]; exact s2 _ _ (sm _ _ e)
    · rw [upd_same, take_step ey, List.map_append]; rfl
  · rintro H ⟨sm, hl⟩
    rw [List.length_map, List.take_length] at hl
    exact hd H sm hl
def fracOf : List (Option Int) → Option (Int × Int)
  | [some a] => some (a, 1)
  | [some a, some b] => if 1 < b ∧ ((Int.gcd a b : Nat) : Int) = 1 then some (a, b) else none
  | _ => none
def readFrac (w : Str) : Option (Int × Int) := fracOf ((Txt.split w "/").map readInt)
def fracD : Option (Int × Int) → PyData
  | none => .none
  | some (a, b) => .tuple [.int a, .int b]
/-- read_fraction(word) -/
def spRF (K : PySem.W.Frag) : Sp := fun vs H Q _ => ∃ w : Str, vs = [.str w] ∧ w.length < 2 ^ 19 ∧ ∀ v H', Same H H' → Dp K H' v (fracD (readFrac w)) → Q v H'
theorem inV_non (l : List (Option Int)) : inV .non (l.map optI) = l.any (fun o => o.isNone) := by
  unfold inV
  rw [List.any_map]
  congr 1
  funext o
  cases o <;> rfl
theorem flat_opt (l : List (Option Int)) : (l.map optI).all flatV = true := by
  rw [List.all_map, List.all_eq_true]
  intro o _
  cases o <;> rfl
section
variable {P : Program} {w : World} {K : PySem.W.Frag} {mg : Str → Option Value} {base : Heap} {A : Nat → Addr} {D : Nat → FuncData}
theorem ok_rf (T : Txt K mg A D) : FnG P w K mg base CX0 3 (A 6) (D 6) ["word"] (spRF K) := by
  have G_is_fraction := ok_frac (P := P) (w := w) (base := base) T
  have G_read_integer := ok_ri (P := P) (w := w) (base := base) T
  refine def_ok0 T.F_read_fraction sc_read_fraction (fun vs H Q E h => ?_) (fun cdv Ar outer s H vs Q E hr hG h => ?_)
  · obtain ⟨a, rfl, _⟩ := h; rfl
  · obtain ⟨wd, rfl, hl, q⟩ := h
    refine ⟨_, (pss_cons (ps_set (i := 1) sc_read_fraction.nd rfl (Or.inl rfl) (pe_cut (pe_ifExp (pt_val (pe_callB call_isi (by rfl) T.n_isinstance (by decide +kernel) (pa_cons (pv 0) (pa_cons (pe_bltn (v := .ty "str") (by rfl) T.n_str (by decide +kernel) rfl) pa_nil)))) (pe_split (pv 0) (pe_gl T.c_SLASH)) (pe_lst pa_nil))))
      (pss_cons (ps_setLc (i := 2) (own := [("part", 4)]) (g := gName 4) (tt := tYes) (by rfl) sc_read_fraction.nd rfl rfl (sw_true rfl rfl rfl (by decide +kernel)) (pi_list (pv 1)) (blkOk_by (own := [("part", 4)]) (N := ["word", "parts", "numbers", "found", "part"]) (sc := defScope s_read_fraction) (by decide +kernel)) (fun _ _ _ _ _ => pg_name (i := 4) sc_read_fraction.nd rfl (Or.inl rfl)) (fun _ _ _ _ _ => pts_nil) (fun _ _ _ _ _ => (pe_cg G_read_integer (hr.mono (by decide)) hG (by rfl) T.g_read_integer T.F_read_integer.kp T.b_read_integer pass0 (pa_cons (pv 4) pa_nil))))
      (pss_cons (ps_if (pt_cut (PW.pt (pw_or (pt_not (pt_chain op_le op_le pe_int (pe_callB call_len_seq (by rfl) T.n_len PySem.boot_len (pa_cons (pv 1) pa_nil)) pe_int)) (pw_or1 (pt_cmpR op_in_seq pe_non (pv 2) (by rfl)))))) (pss_one (ps_ret pe_non)) pss_nil)
      (pss_cons (ps_if (pt_cmpR op_eq (pe_callB call_len_seq (by rfl) T.n_len PySem.boot_len (pa_cons (pv 1) pa_nil)) pe_int (nomark _)) (pss_one (ps_ret (pe_tup (pa_cons (pe_ix ix_list (pv 2) pe_int (fun _ _ => rfl)) (pa_cons pe_int pa_nil))))) pss_nil)
      (pss_cons (ps_set (i := 3) sc_read_fraction.nd rfl (Or.inl rfl) (pe_tup (pa_cons (pe_ix ix_list (pv 2) pe_int (fun _ _ => rfl)) (pa_cons (pe_ix ix_list (pv 2) pe_int (fun _ _ => rfl)) pa_nil))))
      (pss_one (ps_ret (pe_ifExp (PW.pt (pw_and (pt_cmpR op_gt (pe_ix ix_list (pv 2) pe_int (fun _ _ => rfl)) pe_int (nomark _)) (pw_and1 (pt_val (pe_cg G_is_fraction (hr.mono (by decide)) hG (by rfl) T.g_is_fraction T.F_is_fraction.kp T.b_is_fraction pass0 (pa_cons (pv 3) pa_nil)))))) (pv 3) pe_non)))))))), ?_⟩
    have hsz : (Txt.split wd "/").length < 2 ^ 20 := by have := PyProof.Rows.split_le wd "/"; omega
    refine ⟨fun v H1 => ∃ p, v = .ref p ∧ Same H H1 ∧ H1 p = some (.lst ((Txt.split wd "/").map V.str)), ?_, ?_⟩
    · obtain ⟨t, ty, e1⟩ := (Known.str (H := H) wd).kStr (K := K)
      refine ⟨_, rfl, _, .ty "str", t, _, _, rfl, .ty _, ty, e1, _, rfl, ?_⟩
      refine ⟨_, rfl, ⟨_, rfl⟩, wd, _, rfl, rfl, rfl, by rw [sizeLine_eq]; omega, fun p hp => ⟨p, rfl, same_upd hp, upd_same⟩⟩
    · rintro v H1 ⟨p, rfl, sm, hp⟩
      -- numbers
      refine ⟨_, rfl, p, rfl, ⟨_, SqL.of hp⟩, fun D hD => lcV_list (K := K) (a := p) (ys := Txt.split wd "/") (j := 4) V.str (fun y => optI (readInt y)) hD (SqL.of hp) (small20' hsz)
        (fun y hy H Q sm k => ⟨_, rfl, y, rfl, ?_, fun H' s' => k H' s'⟩) (fun H2 sm2 hL => ?_)⟩
      · exact Nat.lt_of_le_of_lt (PyProof.Rows.part_short hy) (by omega)
      · have hp2 := sm2 _ _ hp
        have hlen : ((Txt.split wd "/").map V.str).length = (Txt.split wd "/").length := List.length_map ..
        have hLn : ((Txt.split wd "/").map fun y => optI (readInt y)) = ((Txt.split wd "/").map readInt).map optI := by rw [List.map_map]; rfl
        rw [hLn] at hL
        obtain ⟨R, hR⟩ : ∃ R, R = (Txt.split wd "/").map readInt := ⟨_, rfl⟩
        have hRl : R.length = (Txt.split wd "/").length := by rw [hR, List.length_map]
        rw [← hR] at hL
        refine ⟨fun b H3 => b = (!(decide (1 ≤ R.length) && decide (R.length ≤ 2)) || R.any (fun o => o.isNone)) ∧ H3 = H2, ?_, ?_⟩
        · refine ⟨_, rfl, p, _, rfl, .inl (SqL.of hp2), 1, _, rfl, rfl, _, rfl, ite2 (fun e => ?_) (fun e => ?_)⟩
          · have e := of_decide_eq_true e
            refine ⟨_, 2, rfl, rfl, _, rfl, ite2 (fun e2 => ?_) (fun e2 => ?_)⟩
            · refine ⟨?_, rfl⟩
              have e3 : ¬ ((((Txt.split wd "/").map V.str).length : Int) ≤ 2) := by simpa using e2
              rw [decide_eq_false (show ¬ (R.length ≤ 2) by omega), Bool.and_false]; rfl
            · have e3 : (((Txt.split wd "/").map V.str).length : Int) ≤ 2 := by simpa using e2
              refine ⟨_, rfl, D, _, rfl, .inl (SqL.of hL), rfl, flat_opt R, _, rfl, ?_, rfl⟩
              rw [decide_eq_true (show R.length ≤ 2 by omega), decide_eq_true (show 1 ≤ R.length by omega)]
              show inV .non (R.map optI) = _
              rw [inV_non]; rfl
          · refine ⟨_, rfl, ?_, rfl⟩
            have e3 : ¬ ((1 : Int) ≤ (((Txt.split wd "/").map V.str).length : Int)) := by simpa using e
            rw [decide_eq_false (show ¬ (1 ≤ R.length) by omega)]; rfl
        · rintro b H3 ⟨rfl, rfl⟩
          have q' : ∀ v H', Same H3 H' → Dp K H' v (fracD (readFrac wd)) → Q v H' := fun v H' s' d => q v H' ((sm.trans sm2).trans s') d
          have hF : readFrac wd = fracOf R := by rw [hR]; rfl
          rw [hF] at q'
          match R, hL, hRl, q' with
          | [], _, _, q' => exact q' .non H3 (Same.refl _) .non
          | [none], _, _, q' => exact q' .non H3 (Same.refl _) .non
          | [some a], hL, hRl, q' =>
            refine ⟨_, rfl, p, _, rfl, .inl (SqL.of hp2), rfl, _, rfl, ite2 (fun e => ?_) (fun e => ?_)⟩
            · refine ⟨_, rfl, D, _, 0, .int a, rfl, rfl, SqL.of hL, atI_nat (j := 0) rfl, (by show 2 ≤ sizeLine; decide), fun t ht => ?_⟩
              exact q' _ _ (same_upd ht) (.tup (SqT.of upd_same) (.cons (.int _) (.cons (.int _) .nil)))
            · exact absurd (decide_eq_true (by rw [hlen, ← hRl]; rfl)) e
          | [some a, some b], hL, hRl, q' =>
            refine ⟨_, rfl, p, _, rfl, .inl (SqL.of hp2), rfl, _, rfl, ite2 (fun e => ?_) (fun e => ?_)⟩
            · have e := V.int.inj (of_decide_eq_true e)
              rw [hlen, ← hRl] at e
              exact absurd e (by simp)
            · refine ⟨_, rfl, D, _, 0, .int a, rfl, rfl, SqL.of hL, atI_nat (j := 0) rfl, _, rfl, D, _, 1, .int b, rfl, rfl, SqL.of hL, atI_nat (j := 1) rfl, (by show 2 ≤ sizeLine; decide), fun t ht => ?_⟩
              have st := same_upd (o := .tup [.int a, .int b]) ht
              have hL2 := st _ _ hL
              refine ⟨_, rfl, D, _, 1, .int b, rfl, rfl, SqL.of hL2, atI_nat (j := 1) rfl, b, 1, rfl, rfl, _, rfl, ite2 (fun e => ?_) (fun e => ?_)⟩
              · have e := of_decide_eq_true e
                refine ⟨_, rfl, _, rfl, .inl ⟨t, _, rfl, upd_same, ?_, _, rfl, ite2 (fun e2 => ?_) (fun e2 => ?_)⟩⟩
                · intro x hx
                  simp only [List.mem_cons, List.not_mem_nil, or_false] at hx
                  rcases hx with rfl | rfl <;> exact .int _
                · have e3 : (1 ≤ b) ∧ ((Int.gcd a b : Nat) : Int) = 1 := by
                    have z : (decide (1 ≤ b) && decide (((Int.gcd a b : Nat) : Int) = 1)) = true := e2
                    simpa using z
                  refine ⟨_, rfl, q' _ _ st ?_⟩
                  show Dp K _ _ (fracD (if _ then _ else _))
                  rw [if_pos ⟨e, e3.2⟩]
                  exact .tup (SqT.of upd_same) (.cons (.int _) (.cons (.int _) .nil))
                · have e3 : ¬ ((1 ≤ b) ∧ ((Int.gcd a b : Nat) : Int) = 1) := by
                    intro z
                    exact e2 (show (decide (1 ≤ b) && decide (((Int.gcd a b : Nat) : Int) = 1)) = true by simpa using z)
                  refine q' _ _ st ?_
                  show Dp K _ _ (fracD (if _ then _ else _))
                  rw [if_neg (fun z => e3 ⟨by omega, z.2⟩)]
                  exact .non
              · refine q' _ _ st ?_
                show Dp K _ _ (fracD (if _ then _ else _))
                rw [if_neg (fun z => e (decide_eq_true z.1))]
                exact .non
          | [some a, none], _, _, q' => exact q' .non H3 (Same.refl _) .non
          | [none, x], _, _, q' => cases x <;> exact q' .non H3 (Same.refl _) .non
          | x :: y :: z :: r, _, _, q' =>
            have e : (!(decide (1 ≤ (x :: y :: z :: r).length) && decide ((x :: y :: z :: r).length ≤ 2)) || (x :: y :: z :: r).any (fun o => o.isNone)) = true := by
              rw [decide_eq_false (show ¬ ((x :: y :: z :: r).length ≤ 2) by simp), Bool.and_false]; rfl
            rw [e]
            have q2 := q' .non H3 (Same.refl _)
            cases x <;> cases y <;> exact q2 .non
end
end My

namespace My
open PySem PySem.Spec PyProof.Rows L2
def fracText (a b : Int) : Str := if b = 1 then (toString a : Str) else (toString a : Str) ++ "/" ++ (toString b : Str)
/-- fraction_text(one) -/
def spFT : Sp := fun vs H Q _ => ∃ (p : Addr) (a b : Int), vs = [.ref p] ∧ H p = some (.tup [.int a, .int b]) ∧ isFracL [.int a, .int b] = true ∧ a.natAbs < 10 ^ 300 ∧ b.natAbs < 10 ^ 300 ∧ Q (.str (fracText a b)) H
theorem log_small {i : Int} (h : i.natAbs < 10 ^ 300) : i.natAbs.log2 < 1920 := by
  have h2 : i.natAbs < 2 ^ 1000 := Nat.lt_trans h (by decide +kernel)
  have := PySem.Flt.log2_lt_of (show 0 < 1000 by decide) h2
  omega
theorem str_small {i : Int} (h : i.natAbs < 10 ^ 300) : (toString i : Str).length ≤ 1921 := PyProof.Rows.int_text_len_1921 (log_small h)
section
variable {P : Program} {w : World} {K : PySem.W.Frag} {mg : Str → Option Value} {base : Heap} {A : Nat → Addr} {D : Nat → FuncData}
theorem ok_ft (T : Txt K mg A D) : FnG P w K mg base CX0 3 (A 7) (D 7) ["one"] spFT := by
  have G_is_fraction := ok_frac (P := P) (w := w) (base := base) T
  refine def_ok0 T.F_fraction_text sc_fraction_text (fun vs H Q E h => ?_) (fun cdv Ar outer s H vs Q E hr hG h => ?_)
  · obtain ⟨p, a, b, rfl, _⟩ := h; rfl
  · obtain ⟨p, a, b, rfl, hp, hf, ka, kb, q⟩ := h
    refine ⟨_, (pss_cons (ps_if (PW.pt (pw_or (pt_not (pt_val (pe_cg G_is_fraction (hr.mono (by decide)) hG (by rfl) T.g_is_fraction T.F_is_fraction.kp T.b_is_fraction pass0 (pa_cons (pv 0) pa_nil)))) (pw_or1 (pt_cmpR op_ge (pe_callB (call_max2 rfl) (by rfl) T.n_max (by decide +kernel) (pa_cons (pe_callB call_abs (by rfl) T.n_abs (by decide +kernel) (pa_cons (pe_ix ix_tup (pv 0) pe_int (fun _ _ => rfl)) pa_nil)) (pa_cons (pe_ix ix_tup (pv 0) pe_int (fun _ _ => rfl)) pa_nil))) (pe_gl T.c_BEYOND) (nomark _))))) (pss_one ps_never) pss_nil)
      (pss_one (ps_ret (pe_ifExp (pt_cmpR op_eq (pe_ix ix_tup (pv 0) pe_int (fun _ _ => rfl)) pe_int (nomark _)) (pe_callTy call_str_int (by rfl) T.n_str (by decide +kernel) (pa_cons (pe_ix ix_tup (pv 0) pe_int (fun _ _ => rfl)) pa_nil)) (pe_op op_add_str (pe_op op_add_str (pe_callTy call_str_int (by rfl) T.n_str (by decide +kernel) (pa_cons (pe_ix ix_tup (pv 0) pe_int (fun _ _ => rfl)) pa_nil)) (pe_gl T.c_SLASH)) (pe_callTy call_str_int (by rfl) T.n_str (by decide +kernel) (pa_cons (pe_ix ix_tup (pv 0) pe_int (fun _ _ => rfl)) pa_nil))))))), ?_⟩
    have at0 : ∀ x y : V, atI [x, y] 0 = some x := fun _ _ => atI_nat (j := 0) rfl
    have at1 : ∀ x y : V, atI [x, y] 1 = some y := fun _ _ => atI_nat (j := 1) rfl
    have hb : 1 ≤ b := by
      have z : (decide (1 ≤ b) && decide (((Int.gcd a b : Nat) : Int) = 1)) = true := hf
      rw [Bool.and_eq_true] at z
      exact of_decide_eq_true z.1
    refine ⟨_, rfl, _, rfl, .inl ⟨p, _, rfl, hp, ?_, ?_⟩⟩
    · intro x hx
      simp only [List.mem_cons, List.not_mem_nil, or_false] at hx
      rcases hx with rfl | rfl <;> exact .int _
    rw [hf]
    refine ⟨_, rfl, _, rfl, p, _, 0, .int a, rfl, rfl, SqT.of hp, at0 _ _, a, rfl, _, rfl, p, _, 1, .int b, rfl, rfl, SqT.of hp, at1 _ _, _, b, rfl, _, _, rfl, rfl, _, rfl, ite2 (fun e => ?_) (fun e => ?_)⟩
    · exfalso
      have e := of_decide_eq_true e
      rw [abs_if a] at e
      have z1 : ((10 ^ 300 : Nat) : Int) = (10 : Int) ^ 300 := by rw [Int.natCast_pow]; rfl
      have z2 : (a.natAbs : Int) < ((10 ^ 300 : Nat) : Int) := by omega
      have z3 : b < ((10 ^ 300 : Nat) : Int) := by omega
      rw [← z1] at e
      split at e <;> omega
    · refine ⟨_, rfl, p, _, 1, .int b, rfl, rfl, SqT.of hp, at1 _ _, rfl, _, rfl, ite2 (fun e => ?_) (fun e => ?_)⟩
      · have e := V.int.inj (of_decide_eq_true e)
        refine ⟨_, rfl, p, _, 0, .int a, rfl, rfl, SqT.of hp, at0 _ _, a, rfl, log_small ka, ?_⟩
        unfold fracText at q
        rw [if_pos e] at q
        exact q
      · have e : b ≠ 1 := fun z => e (decide_eq_true (by rw [z]))
        refine ⟨_, rfl, p, _, 0, .int a, rfl, rfl, SqT.of hp, at0 _ _, a, rfl, log_small ka, _, _, rfl, rfl, ?_, _, rfl, p, _, 1, .int b, rfl, rfl, SqT.of hp, at1 _ _, b, rfl, log_small kb, _, _, rfl, rfl, ?_, ?_⟩
        · have := str_small ka
          have e1 : ("/" : Str).length = 1 := rfl
          rw [sizeLine_eq]; omega
        · have := str_small ka
          have := str_small kb
          have e1 : ("/" : Str).length = 1 := rfl
          rw [Str.length_append, sizeLine_eq]; omega
        · unfold fracText at q
          rw [if_neg e] at q
          exact q
theorem redu_same {a b : Int} (hb : 0 < b) : (redu a b = (a, b)) ↔ ((Int.gcd a b : Nat) : Int) = 1 := by
  have e : redF b (Int.gcd a b : Nat) = (Int.gcd a b : Nat) := by unfold redF; rw [if_pos hb]
  have hg : 0 < Int.gcd a b := Int.gcd_pos_of_ne_zero_right _ (by omega)
  unfold redu
  rw [e]
  constructor
  · intro h
    have h2 : b.fdiv (Int.gcd a b : Nat) = b := congrArg Prod.snd h
    rw [Int.fdiv_eq_ediv_of_nonneg _ (by omega)] at h2
    by_cases z : Int.gcd a b = 1
    · omega
    · exfalso
      have h3 : b / ((Int.gcd a b : Nat) : Int) < b := Int.ediv_lt_self_of_pos_of_ne_one hb (by omega) 
      omega
  · intro h
    rw [h, Int.fdiv_one, Int.fdiv_one]
theorem eqv_pair (x y a b : Int) : PyData.eqv (.tuple [.int x, .int y]) (.tuple [.int a, .int b]) = decide ((x, y) = (a, b)) := by
  show ((x == a) && ((y == b) && true)) = _
  by_cases h : x = a
  · by_cases h2 : y = b
    · subst h; subst h2; simp
    · subst h; simp [h2]
  · simp [h]
/-- _law_read(word) -/
def spLR (K : PySem.W.Frag) : Sp := fun vs H Q _ => ∃ w : Str, vs = [.str w] ∧ w.length < 2 ^ 19 ∧ ∀ v H', Same H H' → Dp K H' v (fracD (readFrac w)) → Q v H'
theorem readInt_fig {s : Str} (h : okFig s = true) : ∃ n, intText? s = some n ∧ n.natAbs < 2 ^ 1000 ∧ s.length ≤ 301 ∧ readInt s = if (toString n : Str) = s then some n else none := by
  obtain ⟨n, e1, e2, e3⟩ := fig_val h
  exact ⟨n, e1, e2, e3, readInt_of h e1⟩
theorem fig0 {s : Str} (h : (fig s).length = 0) : okFig s = false := by
  unfold okFig
  rw [decide_eq_false (show ¬ (1 ≤ (fig s).length) by omega), Bool.false_and, Bool.false_and]
theorem empty_iff (s : Str) : s = "" ↔ s.length = 0 := by
  constructor
  · rintro rfl; rfl
  · intro h
    apply str_eq
    have e : s.cps.toList.length = s.length := Array.length_toList
    rw [h] at e
    rw [List.length_eq_zero_iff.mp e]; rfl
theorem map_some_none {l : List Str} {i : Nat} {y : Str} (h : l[i]? = some y) (hn : readInt y = none) : fracOf (l.map readInt) = none := by
  match l, i, h with
  | [a], 0, h => cases h; show fracOf [readInt _] = none; rw [hn]; rfl
  | [a, b], 0, h => cases h; show fracOf [readInt _, readInt b] = none; rw [hn]; cases readInt b <;> rfl
  | [a, b], 1, h => cases h; show fracOf [readInt a, readInt _] = none; rw [hn]; cases readInt a <;> rfl
  | a :: b :: c :: r, _, _ => show fracOf (readInt a :: readInt b :: readInt c :: r.map readInt) = none; cases readInt a <;> cases readInt b <;> rfl
end
end My

namespace My
open PySem PySem.Spec PyProof.Rows L2
section
variable {P : Program} {w : World} {K : PySem.W.Frag} {mg : Str → Option Value} {base : Heap} {A : Nat → Addr} {D : Nat → FuncData}
theorem ok_lr (T : Txt K mg A D) : FnG P w K mg base CX0 3 (A 16) (D 16) ["word"] (spLR K) := by
  have G__law_reduced := ok_red (P := P) (w := w) (base := base) T
  refine def_ok0 T.F__law_read sc__law_read (fun vs H Q E h => ?_) (fun cdv Ar outer s H vs Q E hr hG h => ?_)
  · obtain ⟨a, rfl, _⟩ := h; rfl
  · obtain ⟨wd, rfl, hl, q⟩ := h
    refine ⟨_, (pss_cons (ps_par (i := 1) (j := 2) (by rfl) sc__law_read.nd rfl rfl (by decide) rfl rfl (pa_cons (pe_split (pv 0) pe_str) (pa_cons (pe_lst pa_nil) pa_nil)) (by rfl))
      (pss_cons (ps_for PassesOwn.never rfl (pi_list (pv 1)) (pg_name (i := 3) sc__law_read.nd rfl (Or.inl rfl)) (pss_cons (ps_set (i := 4) sc__law_read.nd rfl (Or.inl rfl) (pe_cut (pe_ifExp (pt_cmpR op_eq (pe_slice sl_str (pv 3) po_none (po_some pe_int)) pe_str (nomark _)) (pe_slice sl_str (pv 3) (po_some pe_int) po_none) (pv 3))))
      (pss_cons (ps_if (pt_cut (PW.pt (pw_or (pt_cmpR op_eq (pv 4) pe_str (nomark _)) (pw_or (pt_not (pt_val (pe_callB (cr_all rfl) (by rfl) T.n_all (by decide +kernel) (pa_cons (pe_lc (own := [("sign", 5)]) (g := gName 5) (tt := tYes) (by rfl) sc__law_read.nd (pi_str (pv 4)) (blkOk_by (own := [("sign", 5)]) (N := ["word", "parts", "numbers", "part", "figures", "sign"]) (sc := defScope s__law_read) (by decide +kernel)) (fun _ _ _ _ _ => pg_name (i := 5) sc__law_read.nd rfl (Or.inl rfl)) (fun _ _ _ _ _ => pts_nil) (fun _ _ _ _ _ => (pe_cmpR op_in_sign (pv 5) pe_str rfl))) pa_nil)))) (pw_or1 (pt_cmpR op_gt (pe_callB call_len_str (by rfl) T.n_len PySem.boot_len (pa_cons (pv 4) pa_nil)) pe_int (nomark _))))))) (pss_one (ps_ret pe_non)) pss_nil)
      (pss_cons (ps_if (pt_cmpR op_ne (pe_callTy call_str_int (by rfl) T.n_str (by decide +kernel) (pa_cons (pe_callTy call_int_str (by rfl) T.n_int (by decide +kernel) (pa_cons (pv 3) pa_nil)) pa_nil)) (pv 3) (nomark _)) (pss_one (ps_ret pe_non)) pss_nil)
      (pss_one (ps_expr (pe_bm PySem.F.plainAttrs_list PySem.F.slot_list_append PySem.F.type_list_append mt_append (pv 2) (pa_cons (pe_callTy call_int_str (by rfl) T.n_int (by decide +kernel) (pa_cons (pv 3) pa_nil)) pa_nil))))))))
      (pss_cons (ps_if (pt_cmpR op_eq (pe_callB call_len_seq (by rfl) T.n_len PySem.boot_len (pa_cons (pv 2) pa_nil)) pe_int (nomark _)) (pss_one (ps_ret (pe_tup (pa_cons (pe_ix ix_list (pv 2) pe_int (fun _ _ => rfl)) (pa_cons pe_int pa_nil))))) pss_nil)
      (pss_cons (ps_if (PW.pt (pw_or (pt_cmpR op_gt (pe_callB call_len_seq (by rfl) T.n_len PySem.boot_len (pa_cons (pv 2) pa_nil)) pe_int (nomark _)) (pw_or (pt_cmpR op_lt (pe_ix ix_list (pv 2) pe_int (fun _ _ => rfl)) pe_int (nomark _)) (pw_or1 (pt_cmpR (op_neD hr.units) (pe_cg G__law_reduced (hr.mono (by decide)) hG (by rfl) T.g__law_reduced T.F__law_reduced.kp T.b__law_reduced pass0 (pa_cons (pe_ix ix_list (pv 2) pe_int (fun _ _ => rfl)) (pa_cons (pe_ix ix_list (pv 2) pe_int (fun _ _ => rfl)) pa_nil))) (pe_tup (pa_cons (pe_ix ix_list (pv 2) pe_int (fun _ _ => rfl)) (pa_cons (pe_ix ix_list (pv 2) pe_int (fun _ _ => rfl)) pa_nil))) (nomark _)))))) (pss_one (ps_ret pe_non)) pss_nil)
      (pss_one (ps_ret (pe_tup (pa_cons (pe_ix ix_list (pv 2) pe_int (fun _ _ => rfl)) (pa_cons (pe_ix ix_list (pv 2) pe_int (fun _ _ => rfl)) pa_nil))))))))), ?_⟩
    obtain ⟨Y, hY⟩ : ∃ Y, Y = Txt.split wd "/" := ⟨_, rfl⟩
    have hsz : Y.length < 2 ^ 20 := by have := PyProof.Rows.split_le wd "/"; rw [hY]; omega
    have hpos : 1 ≤ Y.length := by rw [hY]; exact PyProof.Rows.split_pos wd "/"
    have hpart : ∀ y ∈ Y, y.length < 2 ^ 20 := fun y hy => by
      rw [hY] at hy
      have := PyProof.Rows.part_short hy
      omega
    have q' : ∀ v H', Same H H' → Dp K H' v (fracD (fracOf (Y.map readInt))) → Q v H' := by rw [hY]; exact q
    refine ⟨_, rfl, ⟨_, rfl⟩, wd, "/", rfl, rfl, rfl, by rw [sizeLine_eq]; omega, fun p hp => ?_⟩
    rw [← hY]
    have s1 := same_upd (o := .lst (Y.map V.str)) hp
    have p1 : (upd H p (.lst (Y.map V.str))) p = some (.lst (Y.map V.str)) := upd_same
    refine ⟨(by show 0 ≤ sizeLine; exact Nat.zero_le _), fun n hn => ⟨_, _, rfl, ?_⟩⟩
    have npn : p ≠ n := ne_of_none p1 hn
    have s2 : Same H (upd (upd H p (.lst (Y.map V.str))) n (.lst [])) := s1.trans (same_upd hn)
    have hnH : H n = none := s1.free hn
    have p2 : (upd (upd H p (.lst (Y.map V.str))) n (.lst [])) p = some (.lst (Y.map V.str)) := by rw [upd_ne npn]; exact p1
    refine ⟨_, rfl, p, rfl, ⟨_, SqL.of p2⟩, for_list (K := K) (a := p) (xs := Y.map V.str) (fun i σ H' => ∃ (L : List Int) (u3 u4 : Option V), σ = [some (.str wd), some (.ref p), some (.ref n), u3, u4, none] ∧
        (Y.take i).map readInt = L.map some ∧ (∀ z ∈ L, z.natAbs < 2 ^ 1000) ∧ Same H H' ∧ H' p = some (.lst (Y.map V.str)) ∧ H' n = some (.lst (L.map V.int)))
      ⟨[], none, none, rfl, rfl, (fun z h => absurd h List.not_mem_nil), s2, p2, upd_same⟩ (fun i σ H' _ ⟨_, _, _, _, _, _, _, h, _⟩ => SqL.of h) ?_ ?_⟩
    · rintro i x σ H1 hx ⟨L, u3, u4, rfl, hL, hB, sm, hp1, hn1⟩
      obtain ⟨y, ey, rfl⟩ : ∃ y, Y[i]? = some y ∧ x = V.str y := by
        rw [List.getElem?_map] at hx
        cases e : Y[i]? with
        | none => rw [e] at hx; cases hx
        | some z => rw [e] at hx; exact ⟨z, rfl, (Option.some.inj hx).symm⟩
      have hy := hpart y (List.mem_of_getElem? ey)
      have hf : (fig y).length < 2 ^ 20 := Nat.lt_of_le_of_lt (fig_len y) hy
      refine ⟨fun v H2 => v = .str (fig y) ∧ H2 = H1, ?_, ?_⟩
      · refine ⟨_, rfl, 1, rfl, y, rfl, small20 hy, rfl, _, rfl, ite2 (fun e => ?_) (fun e => ?_)⟩
        · have e : cutS y none (some 1) = "-" := V.str.inj (of_decide_eq_true e)
          refine ⟨_, rfl, 1, rfl, y, rfl, small20 hy, ?_, rfl⟩
          unfold fig; rw [if_pos e]
        · refine ⟨_, rfl, ?_, rfl⟩
          unfold fig; rw [if_neg]
          intro z
          exact e (decide_eq_true (by rw [z]))
      · rintro v H2 ⟨rfl, rfl⟩
        refine ⟨fun b H3 => b = !okFig y ∧ Same H2 H3, ?_, ?_⟩
        · refine ⟨_, rfl, rfl, _, rfl, ite2 (fun e => ?_) (fun e => ?_)⟩
          · have e := V.str.inj (of_decide_eq_true e)
            refine ⟨?_, Same.refl _⟩
            rw [fig0 ((empty_iff _).mp e)]; rfl
          · have hne : 1 ≤ (fig y).length := by
              rcases Nat.eq_zero_or_pos (fig y).length with z | z
              · exact absurd (decide_eq_true (congrArg V.str ((empty_iff _).mpr z))) e
              · exact z
            refine ⟨_, rfl, _, rfl, fun D hD => lcB_str (x := fig y) (j := 5) digS hD (small20' hf) (fun c hc H Q sm k => ⟨_, rfl, c, _, rfl, rfl, k H (Same.refl _)⟩) (fun H3 sm3 hL3 => ?_)⟩
            refine ⟨_, _, rfl, SqL.of hL3, _, rfl, ?_⟩
            rw [all_map]
            by_cases ha : (fig y).cps.toList.all digS = true
            · rw [ha]
              refine ⟨_, rfl, fig y, rfl, small20 hf, _, 300, rfl, rfl, _, rfl, ?_, sm3⟩
              unfold okFig
              rw [ha, decide_eq_true hne, Bool.true_and, Bool.and_true]
              by_cases z : (fig y).length ≤ 300
              · rw [decide_eq_true z, decide_eq_false (by omega)]; rfl
              · rw [decide_eq_false z, decide_eq_true (by omega)]; rfl
            · rw [Bool.eq_false_iff.mpr ha]
              refine ⟨?_, sm3⟩
              unfold okFig
              rw [Bool.eq_false_iff.mpr ha, Bool.and_false]; rfl
        · rintro b H3 ⟨rfl, sm3⟩
          have hp3 := sm3 _ _ hp1
          have hn3 := sm3 _ _ hn1
          refine ite2 (fun e => ?_) (fun e => ?_)
          · have hno := readInt_no (s := y) (by simpa using e)
            refine q' _ _ (sm.trans sm3) ?_
            rw [map_some_none ey hno]
            exact .non
          · obtain ⟨z, e1, e2, e3, e4⟩ := readInt_fig (s := y) (by simpa using e)
            refine ⟨_, rfl, y, z, rfl, e1, by omega, z, rfl, Nat.lt_of_lt_of_le (PySem.Flt.log2_lt_of (by decide) e2) (by decide), _, rfl, rfl, _, rfl, ite2 (fun e => ?_) (fun e => ?_)⟩
            · have hno : readInt y = none := by
                rw [e4, if_neg]
                intro z
                rw [decide_eq_true (congrArg V.str z)] at e
                exact absurd e (by decide)
              refine q' _ _ (sm.trans sm3) ?_
              rw [map_some_none ey hno]
              exact .non
            · have hyes : readInt y = some z := by
                rw [e4, if_pos]
                by_cases z : decide (V.str (toString z : Str) = V.str y) = true
                · exact V.str.inj (of_decide_eq_true z)
                · exact absurd (by rw [Bool.eq_false_iff.mpr z]; rfl) e
              refine ⟨_, rfl, .inl ⟨rfl, _, SqL.of hn3⟩, _, rfl, y, z, rfl, e1, by omega, n, _, _, rfl, rfl, hn3, ?_, ?_⟩
              · have hLl : L.length ≤ Y.length := by
                  have := congrArg List.length hL
                  rw [List.length_map, List.length_map, List.length_take] at this
                  omega
                rw [List.length_map]
                exact small20' (by omega)
              · refine ⟨L ++ [z], _, _, rfl, ?_, ?_, ?_, ?_, ?_⟩
                · rw [take_step ey, List.map_append, hL, List.map_append]
                  show L.map some ++ [readInt y] = _
                  rw [hyes]; rfl
                · intro x hx
                  rcases List.mem_append.mp hx with hx | hx
                  · exact hB x hx
                  · rw [List.mem_singleton.mp hx]; exact e2
                · intro b o e
                  rw [upd_ne (ne_of_none e hnH)]
                  exact sm3 _ _ (sm _ _ e)
                · rw [upd_ne npn]; exact hp3
                · rw [upd_same, List.map_append]; rfl
    · rintro σ H1 ⟨L, u3, u4, rfl, hL, hB, sm, hp1, hn1⟩
      rw [List.length_map, List.take_length] at hL
      rw [hL] at q'
      have hLp : 1 ≤ L.length := by
        have := congrArg List.length hL
        rw [List.length_map, List.length_map] at this
        omega
      have el : ((L.map V.int).length : Int) = L.length := by rw [List.length_map]
      match L, hLp, hB, hn1, q', el with
      | [a], _, hB, hn1, q', _ =>
        refine ⟨_, rfl, n, _, rfl, .inl (SqL.of hn1), rfl, _, rfl, ?_⟩
        refine ⟨_, rfl, n, _, 0, .int a, rfl, rfl, SqL.of hn1, atI_nat (j := 0) rfl, (by show 2 ≤ sizeLine; decide), fun t ht => ?_⟩
        exact q' _ _ (sm.trans (same_upd ht)) (.tup (SqT.of upd_same) (.cons (.int _) (.cons (.int _) .nil)))
      | [a, b], _, hB, hn1, q', _ =>
        have q' : ∀ v H', Same H H' → Dp K H' v (fracD (if 1 < b ∧ ((Int.gcd a b : Nat) : Int) = 1 then some (a, b) else none)) → Q v H' := q'
        have ka := Nat.lt_trans (hB a (by simp)) (show 2 ^ 1000 < 2 ^ 2000 by decide +kernel)
        have kb := Nat.lt_trans (hB b (by simp)) (show 2 ^ 1000 < 2 ^ 2000 by decide +kernel)
        refine ⟨_, rfl, n, _, rfl, .inl (SqL.of hn1), rfl, _, rfl, ?_⟩
        refine ⟨_, rfl, n, _, rfl, .inl (SqL.of hn1), _, 2, rfl, rfl, _, rfl, ?_⟩
        refine ⟨_, rfl, n, _, 1, .int b, rfl, rfl, SqL.of hn1, atI_nat (j := 1) rfl, b, 2, rfl, rfl, _, rfl, ite2 (fun e => ?_) (fun e => ?_)⟩
        · have e := of_decide_eq_true e
          refine q' .non H1 sm ?_
          rw [if_neg (fun z => by omega)]; exact .non
        · have hb : 2 ≤ b := by
            have : ¬ (b < 2) := fun z => e (decide_eq_true z)
            omega
          refine ⟨_, rfl, n, _, 0, .int a, rfl, rfl, SqL.of hn1, atI_nat (j := 0) rfl, _, rfl, n, _, 1, .int b, rfl, rfl, SqL.of hn1, atI_nat (j := 1) rfl, ?_⟩
          refine ⟨a, b, rfl, by omega, ka, kb, fun t H2 s2 ht et => ?_⟩
          have hn2 := s2 _ _ hn1
          refine ⟨_, rfl, n, _, 0, .int a, rfl, rfl, SqL.of hn2, atI_nat (j := 0) rfl, _, rfl, n, _, 1, .int b, rfl, rfl, SqL.of hn2, atI_nat (j := 1) rfl, (by show 2 ≤ sizeLine; decide), fun t2 ht2 => ?_⟩
          have s3 := same_upd (o := .tup [.int a, .int b]) ht2
          refine ⟨.tuple [.int (redu a b).1, .int (redu a b).2], .tuple [.int a, .int b], .tup (SqT.of (s3 _ _ et)) (.cons (.int _) (.cons (.int _) .nil)), .tup (SqT.of upd_same) (.cons (.int _) (.cons (.int _) .nil)), rfl, rfl, _, rfl, ?_⟩
          rw [eqv_pair]
          by_cases hg : ((Int.gcd a b : Nat) : Int) = 1
          · have er := (redu_same (a := a) (b := b) (by omega)).mpr hg
            rw [if_pos ⟨by omega, hg⟩] at q'
            rw [decide_eq_true (show ((redu a b).1, (redu a b).2) = (a, b) from er)]
            have hn3 := s3 _ _ hn2
            refine ⟨_, rfl, n, _, 0, .int a, rfl, rfl, SqL.of hn3, atI_nat (j := 0) rfl, _, rfl, n, _, 1, .int b, rfl, rfl, SqL.of hn3, atI_nat (j := 1) rfl, (by show 2 ≤ sizeLine; decide), fun t3 ht3 => ?_⟩
            exact q' _ _ (((sm.trans s2).trans s3).trans (same_upd ht3)) (.tup (SqT.of upd_same) (.cons (.int _) (.cons (.int _) .nil)))
          · have er : ¬ (redu a b = (a, b)) := fun z => hg ((redu_same (a := a) (b := b) (by omega)).mp z)
            rw [if_neg (fun z => hg z.2)] at q'
            rw [decide_eq_false (show ¬ (((redu a b).1, (redu a b).2) = (a, b)) from er)]
            exact q' _ _ ((sm.trans s2).trans s3) .non
      | a :: b :: c :: r, _, hB, hn1, q', el =>
        refine ⟨_, rfl, n, _, rfl, .inl (SqL.of hn1), rfl, _, rfl, ite2 (fun e => ?_) (fun e => ?_)⟩
        · have e := V.int.inj (of_decide_eq_true e)
          rw [el] at e
          simp only [List.length_cons] at e
          omega
        · refine ⟨_, rfl, n, _, rfl, .inl (SqL.of hn1), _, 2, rfl, rfl, _, rfl, ite2 (fun e => ?_) (fun e => ?_)⟩
          · exact q' .non H1 sm .non
          · refine absurd (decide_eq_true ?_) e
            rw [el]
            simp only [List.length_cons]
            omega
end
end My

namespace My
open PySem PySem.Spec PyProof.Rows L2
def smallS : Str := "abcdefghijklmnopqrstuvwxyz"
def figsS : Str := "0123456789"
def wordsA : List Str := ["machine", "letters", "start", "end", "floor", "clocks", "stay", "step", "product", "of", "claim", "if"]
def wordsB : List Str := ["reset", "never", "comes", "again", "reads", "empty", "within", "same", "equal", "alike"]
def wordsC : List Str := ["atleast", "atmost", "costs", "mean"]
def nameSign (c : Nat) : Bool := decide (c ∈ smallS.cps.toList) || decide (c ∈ figsS.cps.toList)
def headOk (s : Str) : Bool := match s.cps.toList with
  | c :: _ => decide (c ∈ smallS.cps.toList)
  | [] => false
/-- what the first test of is_name lets through -/
def nameA (s : Str) : Bool := (decide (1 ≤ s.length) && decide (s.length ≤ 8)) && headOk s
def inWords (s : Str) : Bool := decide (s ∈ linesW ++ claimsW)
def isNameS (s : Str) : Bool := nameA s && (!inWords s && s.cps.toList.all nameSign)
def nameV : V → Bool
  | .str s => isNameS s
  | _ => false
theorem inV_str (s : Str) (l : List Str) : inV (.str s) (l.map V.str) = decide (s ∈ l) := by
  unfold inV
  rw [List.any_map]
  induction l with
  | nil => rfl
  | cons a r ih =>
    rw [List.any_cons, ih]
    show ((a == s) || decide (s ∈ r)) = _
    by_cases h : a = s
    · subst h; simp
    · rw [beq_eq_false_iff_ne.mpr h, Bool.false_or]
      exact decide_eq_decide.mpr ⟨fun z => List.mem_cons_of_mem _ z, fun z => by
        rcases List.mem_cons.mp z with z | z
        · exact absurd z.symm h
        · exact z⟩
theorem flat_strs (l : List Str) : (l.map V.str).all flatV = true := by
  rw [List.all_map, List.all_eq_true]
  intro o _
  rfl
theorem words_same (s : Str) : decide (s ∈ (wordsA ++ wordsB) ++ wordsC) = inWords s := by
  unfold inWords
  refine decide_eq_decide.mpr ?_
  have h1 : ∀ x ∈ (wordsA ++ wordsB) ++ wordsC, x ∈ linesW ++ claimsW := by decide +kernel
  have h2 : ∀ x ∈ linesW ++ claimsW, x ∈ (wordsA ++ wordsB) ++ wordsC := by decide +kernel
  exact ⟨h1 s, h2 s⟩
theorem sign_same (c : Nat) : decide (c ∈ (smallS ++ figsS).cps.toList) = nameSign c := by
  unfold nameSign
  have e : (smallS ++ figsS).cps.toList = smallS.cps.toList ++ figsS.cps.toList := by decide +kernel
  rw [e, ← Bool.decide_or]
  exact decide_eq_decide.mpr List.mem_append
theorem nameA_len {s : Str} (h : nameA s = true) : 1 ≤ s.length ∧ s.length ≤ 8 := by
  unfold nameA at h
  rw [Bool.and_eq_true, Bool.and_eq_true] at h
  exact ⟨of_decide_eq_true h.1.1, of_decide_eq_true h.1.2⟩
theorem isName_no {s : Str} (h : nameA s = false) : isNameS s = false := by unfold isNameS; rw [h, Bool.false_and]
theorem isName_yes {s : Str} (h : nameA s = true) : isNameS s = (!inWords s && s.cps.toList.all nameSign) := by unfold isNameS; rw [h, Bool.true_and]
theorem strV {v : V} (h : isStrV v = true) : ∃ s, v = .str s := by
  cases v <;> simp [isStrV] at h
  exact ⟨_, rfl⟩
theorem nameV_no {v : V} (h : isStrV v = false) : nameV v = false := by
  cases v <;> first | rfl | (simp [isStrV] at h)
/-- is_name(value), whichever of both -/
def spName : Sp := fun vs H Q _ => ∃ v, vs = [v] ∧ Known H v ∧ (∀ s, v = .str s → s.length < 2 ^ 20) ∧ ∀ H', Same H H' → Q (.bl (nameV v)) H'
section
variable {P : Program} {w : World} {K : PySem.W.Frag} {mg : Str → Option Value} {base : Heap} {A : Nat → Addr} {D : Nat → FuncData}
theorem ok_name (T : Txt K mg A D) : FnG P w K mg base CX0 1 (A 1) (D 1) ["value"] spName := by
  refine def_ok0 T.F_is_name sc_is_name (fun vs H Q E h => ?_) (fun cdv Ar outer s H vs Q E hr hG h => ?_)
  · obtain ⟨a, rfl, _⟩ := h; rfl
  · obtain ⟨v, rfl, kn, hl, q⟩ := h
    refine ⟨_, (pss_cons (ps_if (pt_cut (PW.pt (pw_or (pt_not (pt_val (pe_callB call_isi (by rfl) T.n_isinstance (by decide +kernel) (pa_cons (pv 0) (pa_cons (pe_bltn (v := .ty "str") (by rfl) T.n_str (by decide +kernel) rfl) pa_nil))))) (pw_or (pt_not (pt_chain op_le op_le pe_int (pe_callB call_len_str (by rfl) T.n_len PySem.boot_len (pa_cons (pv 0) pa_nil)) (pe_gl T.c_MOST_SIGNS))) (pw_or1 (pt_cmpR op_notIn_sign (pe_ix ix_str (pv 0) pe_int (fun _ _ => rfl)) (pe_gl T.c_SMALL) rfl)))))) (pss_one (ps_ret pe_bl)) pss_nil)
      (pss_one (ps_ret (pe_and (pe_cmpR op_notIn_seq (pv 0) (pe_op op_catT (pe_gl T.c_LINES) (pe_gl T.c_CLAIMS)) (by rfl)) (pe_one (pe_callB (cr_all rfl) (by rfl) T.n_all (by decide +kernel) (pa_cons (pe_lc (own := [("sign", 1)]) (g := gName 1) (tt := tYes) (by rfl) sc_is_name.nd (pi_str (pv 0)) (blkOk_by (own := [("sign", 1)]) (N := ["value", "sign"]) (sc := defScope s_is_name) (by decide +kernel)) (fun _ _ _ _ _ => pg_name (i := 1) sc_is_name.nd rfl (Or.inl rfl)) (fun _ _ _ _ _ => pts_nil) (fun _ _ _ _ _ => (pe_or (pe_cmpR op_in_sign (pv 1) (pe_gl T.c_SMALL) rfl) (pe_one (pe_cmpR op_in_sign (pv 1) (pe_gl T.c_FIGURES) rfl))))) pa_nil))))))), ?_⟩
    obtain ⟨t, ty, e1⟩ := kn.kStr (K := K)
    cases hv : isStrV v with
    | false =>
      rw [hv] at e1
      rw [nameV_no hv] at q
      refine ⟨fun b H1 => b = true ∧ H1 = H, ⟨_, rfl, _, .ty "str", t, _, _, rfl, .ty _, ty, e1, _, rfl, rfl, rfl⟩, ?_⟩
      rintro b H1 ⟨rfl, rfl⟩
      exact q _ (Same.refl _)
    | true =>
      obtain ⟨z, rfl⟩ := strV hv
      have hz := hl z rfl
      refine ⟨fun b H1 => b = !nameA z ∧ H1 = H, ?_, ?_⟩
      · refine ⟨_, rfl, _, .ty "str", t, _, _, rfl, .ty _, ty, e1, _, rfl, ?_⟩
        refine ⟨_, rfl, z, rfl, small20 hz, 1, _, rfl, rfl, _, rfl, ite2 (fun e => ?_) (fun e => ?_)⟩
        · have e := of_decide_eq_true e
          refine ⟨_, 8, rfl, rfl, _, rfl, ite2 (fun e2 => ?_) (fun e2 => ?_)⟩
          · refine ⟨?_, rfl⟩
            have e3 : ¬ ((z.length : Int) ≤ 8) := by simpa using e2
            unfold nameA
            rw [decide_eq_false (show ¬ (z.length ≤ 8) by omega), Bool.and_false, Bool.false_and]; rfl
          · have e3 : (z.length : Int) ≤ 8 := by simpa using e2
            have es : z.cps.toList.length = z.length := Array.length_toList
            cases hc : z.cps.toList with
            | nil => rw [hc] at es; simp at es; omega
            | cons c r =>
              refine ⟨_, rfl, z, 0, c, rfl, rfl, small20 hz, by rw [hc]; exact atI_nat (j := 0) rfl, c, smallS, rfl, rfl, _, rfl, ?_, rfl⟩
              unfold nameA headOk
              rw [decide_eq_true (show 1 ≤ z.length by omega), decide_eq_true (show z.length ≤ 8 by omega), hc]
              rfl
        · refine ⟨_, rfl, ?_, rfl⟩
          have e3 : ¬ ((1 : Int) ≤ (z.length : Int)) := by simpa using e
          unfold nameA
          rw [decide_eq_false (show ¬ (1 ≤ z.length) by omega), Bool.false_and, Bool.false_and]; rfl
      · rintro b H1 ⟨rfl, rfl⟩
        refine ite2 (fun e => ?_) (fun e => ?_)
        · have hn : nameA z = false := by simpa using e
          have q2 := q H1 (Same.refl _)
          rw [show nameV (.str z) = false from isName_no hn] at q2
          exact q2
        · have hn : nameA z = true := by simpa using e
          have ev : nameV (.str z) = (!inWords z && z.cps.toList.all nameSign) := isName_yes hn
          rw [ev] at q
          refine ⟨_, rfl, A 100, A 101, linesW.map V.str, claimsW.map V.str, rfl, rfl, T.t_LINES _, T.t_CLAIMS _, (by decide), (by rw [sizeLine_eq]; decide), fun z => absurd z (by decide), fun _ p hp => ?_⟩
          have s1 := same_upd (o := .tup (linesW.map V.str ++ claimsW.map V.str)) hp
          have em : linesW.map V.str ++ claimsW.map V.str = (linesW ++ claimsW).map V.str := List.map_append.symm
          refine ⟨p, _, rfl, .inr (SqT.of upd_same), rfl, by rw [em]; exact flat_strs _, ?_⟩
          show ∃ c, V.bl (!inV (.str z) (linesW.map V.str ++ claimsW.map V.str)) = .bl c ∧ _
          rw [em, inV_str]
          refine ⟨_, rfl, ite2 (fun e => ?_) (fun e => ?_)⟩
          · have e' : (!inWords z) = true := e
            have e2 : inWords z = false := by simpa using e'
            rw [e2] at q
            have q2 : ∀ H', Same H1 H' → Q (.bl (z.cps.toList.all nameSign)) H' := by simpa using q
            refine ⟨_, rfl, _, rfl, fun D hD => lcB_str (x := z) (j := 1) nameSign hD (small20' hz) (fun c hc H Q sm k => ?_) (fun H2 sm hL => ?_)⟩
            · refine ⟨_, rfl, c, smallS, rfl, rfl, _, rfl, ite2 (fun e3 => ?_) (fun e3 => ?_)⟩
              · have kk := k H (Same.refl _)
                unfold nameSign at kk
                rw [e3] at kk
                exact kk
              · refine ⟨_, rfl, c, figsS, rfl, rfl, ?_⟩
                have kk := k H (Same.refl _)
                unfold nameSign at kk
                rw [Bool.eq_false_iff.mpr e3, Bool.false_or] at kk
                exact kk
            · refine ⟨_, _, rfl, SqL.of hL, ?_⟩
              rw [all_map]
              exact q2 _ (s1.trans sm)
          · have e' : ¬ (!inWords z) = true := e
            have e2 : inWords z = true := by simpa using e'
            rw [e2] at q
            exact q _ s1
end
end My

namespace My
open PySem PySem.Spec PyProof.Rows L2
def isStateS (s : Str) : Bool := (decide (s.length ≤ 540) && decide ((Txt.split s ".").length ≤ 60)) && (Txt.split s ".").all isNameS
/-- is_state(value) of a text -/
def spState : Sp := fun vs H Q _ => ∃ s : Str, vs = [.str s] ∧ s.length < 2 ^ 19 ∧ ∀ H', Same H H' → Q (.bl (isStateS s)) H'
section
variable {P : Program} {w : World} {K : PySem.W.Frag} {mg : Str → Option Value} {base : Heap} {A : Nat → Addr} {D : Nat → FuncData}
theorem ok_lname (T : Txt K mg A D) : FnG P w K mg base CX0 1 (A 17) (D 17) ["value"] spName := by
  refine def_ok0 T.F__law_is_name sc__law_is_name (fun vs H Q E h => ?_) (fun cdv Ar outer s H vs Q E hr hG h => ?_)
  · obtain ⟨a, rfl, _⟩ := h; rfl
  · obtain ⟨v, rfl, kn, hl, q⟩ := h
    refine ⟨_, (pss_cons (ps_set (i := 1) sc__law_is_name.nd rfl (Or.inl rfl) (pe_lst (pa_cons pe_str (pa_cons pe_str (pa_cons pe_str (pa_cons pe_str (pa_cons pe_str (pa_cons pe_str (pa_cons pe_str (pa_cons pe_str (pa_cons pe_str (pa_cons pe_str (pa_cons pe_str (pa_cons pe_str pa_nil))))))))))))))
      (pss_cons (ps_set (i := 1) sc__law_is_name.nd rfl (Or.inl rfl) (pe_op op_cat (pv 1) (pe_lst (pa_cons pe_str (pa_cons pe_str (pa_cons pe_str (pa_cons pe_str (pa_cons pe_str (pa_cons pe_str (pa_cons pe_str (pa_cons pe_str (pa_cons pe_str (pa_cons pe_str pa_nil)))))))))))))
      (pss_cons (ps_set (i := 1) sc__law_is_name.nd rfl (Or.inl rfl) (pe_op op_cat (pv 1) (pe_lst (pa_cons pe_str (pa_cons pe_str (pa_cons pe_str (pa_cons pe_str pa_nil)))))))
      (pss_cons (ps_set (i := 2) sc__law_is_name.nd rfl (Or.inr rfl) pe_str)
      (pss_cons (ps_if (pt_cut (PW.pt (pw_or (pt_not (pt_val (pe_callB call_isi (by rfl) T.n_isinstance (by decide +kernel) (pa_cons (pv 0) (pa_cons (pe_bltn (v := .ty "str") (by rfl) T.n_str (by decide +kernel) rfl) pa_nil))))) (pw_or (pt_not (pt_chain op_le op_le pe_int (pe_callB call_len_str (by rfl) T.n_len PySem.boot_len (pa_cons (pv 0) pa_nil)) pe_int)) (pw_or (pt_cmpR op_notIn_sign (pe_ix ix_str (pv 0) pe_int (fun _ _ => rfl)) (pv 2) rfl) (pw_or1 (pt_cmpR op_in_seq (pv 0) (pv 1) (by rfl)))))))) (pss_one (ps_ret pe_bl)) pss_nil)
      (pss_one (ps_ret (pe_callB (cr_all rfl) (by rfl) T.n_all (by decide +kernel) (pa_cons (pe_lc (own := [("sign", 3)]) (g := gName 3) (tt := tYes) (by rfl) sc__law_is_name.nd (pi_str (pv 0)) (blkOk_by (own := [("sign", 3)]) (N := ["value", "words", "small", "sign"]) (sc := defScope s__law_is_name) (by decide +kernel)) (fun _ _ _ _ _ => pg_name (i := 3) sc__law_is_name.nd rfl (Or.inl rfl)) (fun _ _ _ _ _ => pts_nil) (fun _ _ _ _ _ => (pe_cmpR op_in_sign (pv 3) (pe_op op_add_str (pv 2) pe_str) rfl))) pa_nil))))))))), ?_⟩
    -- words
    refine ⟨(by show 12 ≤ sizeLine; decide), fun l1 h1 => ?_⟩
    have s1 := same_upd (o := .lst (wordsA.map V.str)) h1
    have a1 : (upd H l1 (.lst (wordsA.map V.str))) l1 = some (.lst (wordsA.map V.str)) := upd_same
    refine ⟨_, rfl, (by show 10 ≤ sizeLine; decide), fun l2 h2 => ?_⟩
    have s2 : Same (upd H l1 (.lst (wordsA.map V.str))) _ := same_upd (o := .lst (wordsB.map V.str)) h2
    have a2 : (upd (upd H l1 (.lst (wordsA.map V.str))) l2 (.lst (wordsB.map V.str))) l2 = some (.lst (wordsB.map V.str)) := upd_same
    refine ⟨l1, l2, _, _, rfl, rfl, s2 _ _ a1, a2, (by show 22 ≤ sizeLine; decide), fun l3 h3 => ?_⟩
    have s3 : Same (upd (upd H l1 (.lst (wordsA.map V.str))) l2 (.lst (wordsB.map V.str))) _ := same_upd (o := .lst (wordsA.map V.str ++ wordsB.map V.str)) h3
    refine ⟨_, rfl, (by show 4 ≤ sizeLine; decide), fun l4 h4 => ?_⟩
    have s4 := same_upd (o := .lst (wordsC.map V.str)) h4
    refine ⟨l3, l4, wordsA.map V.str ++ wordsB.map V.str, wordsC.map V.str, rfl, rfl, s4 _ _ upd_same, upd_same, (by show 26 ≤ sizeLine; decide), fun l5 h5 => ?_⟩
    have s5 := same_upd (o := .lst ((wordsA.map V.str ++ wordsB.map V.str) ++ wordsC.map V.str)) h5
    have sm := (((s1.trans s2).trans s3).trans s4).trans s5
    generalize hH : upd _ l5 _ = H5 at sm s5
    have a5 : H5 l5 = some (.lst ((wordsA.map V.str ++ wordsB.map V.str) ++ wordsC.map V.str)) := by rw [← hH]; exact upd_same
    have ew : (wordsA.map V.str ++ wordsB.map V.str) ++ wordsC.map V.str = ((wordsA ++ wordsB) ++ wordsC).map V.str := by rw [List.map_append, List.map_append]
    rw [ew] at a5
    replace q := fun H' s' => q H' (sm.trans s')
    replace kn := kn.same sm
    clear sm s5 hH h5 s4 h4 s3 h3 s2 h2 s1 h1 a1 a2
    obtain ⟨t, ty, e1⟩ := kn.kStr (K := K)
    cases hv : isStrV v with
    | false =>
      rw [hv] at e1
      rw [nameV_no hv] at q
      refine ⟨fun b H1 => b = true ∧ H1 = H5, ⟨_, rfl, _, .ty "str", t, _, _, rfl, .ty _, ty, e1, _, rfl, rfl, rfl⟩, ?_⟩
      rintro b H1 ⟨rfl, rfl⟩
      exact q _ (Same.refl _)
    | true =>
      obtain ⟨z, rfl⟩ := strV hv
      have hz := hl z rfl
      refine ⟨fun b H1 => b = (!nameA z || inWords z) ∧ H1 = H5, ?_, ?_⟩
      · refine ⟨_, rfl, _, .ty "str", t, _, _, rfl, .ty _, ty, e1, _, rfl, ?_⟩
        refine ⟨_, rfl, z, rfl, small20 hz, 1, _, rfl, rfl, _, rfl, ite2 (fun e => ?_) (fun e => ?_)⟩
        · have e := of_decide_eq_true e
          refine ⟨_, 8, rfl, rfl, _, rfl, ite2 (fun e2 => ?_) (fun e2 => ?_)⟩
          · refine ⟨?_, rfl⟩
            have e3 : ¬ ((z.length : Int) ≤ 8) := by simpa using e2
            unfold nameA
            rw [decide_eq_false (show ¬ (z.length ≤ 8) by omega), Bool.and_false, Bool.false_and]; rfl
          · have e3 : (z.length : Int) ≤ 8 := by simpa using e2
            have es : z.cps.toList.length = z.length := Array.length_toList
            cases hc : z.cps.toList with
            | nil => rw [hc] at es; simp at es; omega
            | cons c r =>
              have eA : nameA z = decide (c ∈ smallS.cps.toList) := by
                unfold nameA headOk
                rw [decide_eq_true (show 1 ≤ z.length by omega), decide_eq_true (show z.length ≤ 8 by omega), hc]
                rfl
              refine ⟨_, rfl, z, 0, c, rfl, rfl, small20 hz, by rw [hc]; exact atI_nat (j := 0) rfl, _, rfl, c, smallS, rfl, rfl, _, rfl, ite2 (fun e4 => ?_) (fun e4 => ?_)⟩
              · refine ⟨?_, rfl⟩
                rw [eA]
                have e5 : decide (c ∈ smallS.cps.toList) = false := by
                  cases hd : decide (c ∈ smallS.cps.toList) with
                  | false => rfl
                  | true => rw [hd] at e4; exact absurd e4 (by decide)
                rw [e5]; rfl
              · have e5 : decide (c ∈ smallS.cps.toList) = true := by
                  cases hd : decide (c ∈ smallS.cps.toList) with
                  | true => rfl
                  | false => rw [hd] at e4; exact absurd rfl e4
                refine ⟨_, rfl, _, rfl, l5, _, rfl, .inl (SqL.of a5), rfl, flat_strs _, _, rfl, ?_, rfl⟩
                show inV (.str z) _ = _
                rw [inV_str, words_same, eA, e5]; rfl
        · refine ⟨_, rfl, ?_, rfl⟩
          have e3 : ¬ ((1 : Int) ≤ (z.length : Int)) := by simpa using e
          unfold nameA
          rw [decide_eq_false (show ¬ (1 ≤ z.length) by omega), Bool.false_and, Bool.false_and]; rfl
      · rintro b H1 ⟨rfl, rfl⟩
        refine ite2 (fun e => ?_) (fun e => ?_)
        · have q2 := q H1 (Same.refl _)
          have en : nameV (.str z) = false := by
            show isNameS z = false
            unfold isNameS
            cases hA : nameA z with
            | false => rfl
            | true =>
              rw [hA] at e
              have e' : inWords z = true := by simpa using e
              rw [e']; rfl
          rw [en] at q2
          exact q2
        · have e' : nameA z = true ∧ inWords z = false := by
            cases hA : nameA z <;> cases hW : inWords z <;> rw [hA, hW] at e <;> simp_all
          have ev : nameV (.str z) = z.cps.toList.all nameSign := by
            show isNameS z = _
            rw [isName_yes e'.1, e'.2]; rfl
          rw [ev] at q
          refine ⟨_, rfl, _, rfl, fun D hD => lcB_str (x := z) (j := 3) nameSign hD (small20' hz) (fun c hc H Q sm k => ?_) (fun H2 sm hL => ?_)⟩
          · refine ⟨_, rfl, _, rfl, smallS, figsS, rfl, rfl, (by rw [sizeLine_eq]; decide), c, smallS ++ figsS, rfl, rfl, ?_⟩
            rw [sign_same]
            exact k H (Same.refl _)
          · refine ⟨_, _, rfl, SqL.of hL, ?_⟩
            rw [all_map]
            exact q _ sm
theorem ok_state (T : Txt K mg A D) : FnG P w K mg base CX0 2 (A 2) (D 2) ["value"] spState := by
  have G_is_name := ok_name (P := P) (w := w) (base := base) T
  refine def_ok0 T.F_is_state sc_is_state (fun vs H Q E h => ?_) (fun cdv Ar outer s H vs Q E hr hG h => ?_)
  · obtain ⟨a, rfl, _⟩ := h; rfl
  · obtain ⟨z, rfl, hz, q⟩ := h
    refine ⟨_, (pss_cons (ps_if (pt_cut (PW.pt (pw_or (pt_not (pt_val (pe_callB call_isi (by rfl) T.n_isinstance (by decide +kernel) (pa_cons (pv 0) (pa_cons (pe_bltn (v := .ty "str") (by rfl) T.n_str (by decide +kernel) rfl) pa_nil))))) (pw_or1 (pt_cmpR op_gt (pe_callB call_len_str (by rfl) T.n_len PySem.boot_len (pa_cons (pv 0) pa_nil)) (pe_op op_mulW (pe_gl T.c_MOST_JOINED) (pe_op op_add (pe_gl T.c_MOST_SIGNS) pe_int)) (nomark _)))))) (pss_one (ps_ret pe_bl)) pss_nil)
      (pss_one (ps_ret (pe_and (pe_cmpR op_le (pe_callB call_len_seq (by rfl) T.n_len PySem.boot_len (pa_cons (pe_split (pv 0) (pe_gl T.c_DOT)) pa_nil)) (pe_gl T.c_MOST_JOINED) (nomark _)) (pe_one (pe_callB (cr_all rfl) (by rfl) T.n_all (by decide +kernel) (pa_cons (pe_lc (own := [("part", 1)]) (g := gName 1) (tt := tYes) (by rfl) sc_is_state.nd (pi_list (pe_split (pv 0) (pe_gl T.c_DOT))) (blkOk_by (own := [("part", 1)]) (N := ["value", "part"]) (sc := defScope s_is_state) (by decide +kernel)) (fun _ _ _ _ _ => pg_name (i := 1) sc_is_state.nd rfl (Or.inl rfl)) (fun _ _ _ _ _ => pts_nil) (fun _ _ _ _ _ => (pe_cg G_is_name (hr.mono (by decide)) hG (by rfl) T.g_is_name T.F_is_name.kp T.b_is_name pass0 (pa_cons (pv 1) pa_nil)))) pa_nil))))))), ?_⟩
    obtain ⟨t, ty, e1⟩ := (Known.str (H := H) z).kStr (K := K)
    have hz2 : z.length < 2 ^ 20 := by omega
    refine ⟨fun b H1 => b = !decide (z.length ≤ 540) ∧ H1 = H, ?_, ?_⟩
    · refine ⟨_, rfl, _, .ty "str", t, _, _, rfl, .ty _, ty, e1, _, rfl, ?_⟩
      refine ⟨_, rfl, z, rfl, small20 hz2, 8, 1, rfl, rfl, 60, _, rfl, rfl, wide_mul (a := 10) (b := 10) (by decide) (by decide) (by decide) (by decide) (by decide), _, _, rfl, rfl, _, rfl, ?_, rfl⟩
      show decide (60 * (8 + 1) < (z.length : Int)) = _
      by_cases h : z.length ≤ 540
      · rw [decide_eq_true h, decide_eq_false (by omega)]; rfl
      · rw [decide_eq_false h, decide_eq_true (by omega)]; rfl
    · rintro b H1 ⟨rfl, rfl⟩
      refine ite2 (fun e => ?_) (fun e => ?_)
      · have h5 : decide (z.length ≤ 540) = false := by simpa using e
        unfold isStateS at q
        rw [h5, Bool.false_and, Bool.false_and] at q
        exact q _ (Same.refl _)
      · have h5 : decide (z.length ≤ 540) = true := by simpa using e
        unfold isStateS at q
        rw [h5, Bool.true_and] at q
        have hsz : (Txt.split z ".").length < 2 ^ 20 := by have := PyProof.Rows.split_le z "."; omega
        refine ⟨_, rfl, ⟨_, rfl⟩, z, _, rfl, rfl, rfl, by rw [sizeLine_eq]; omega, fun p hp => ?_⟩
        have s1 := same_upd (o := .lst ((Txt.split z ".").map V.str)) hp
        refine ⟨p, _, rfl, .inl (SqL.of upd_same), _, 60, rfl, rfl, _, rfl, ite2 (fun e => ?_) (fun e => ?_)⟩
        · have e := of_decide_eq_true e
          rw [List.length_map] at e
          rw [decide_eq_true (show (Txt.split z ".").length ≤ 60 by omega), Bool.true_and] at q
          refine ⟨_, rfl, ⟨_, rfl⟩, z, _, rfl, rfl, rfl, by rw [sizeLine_eq]; omega, fun p2 hp2 => ?_⟩
          have s2 := same_upd (o := .lst ((Txt.split z ".").map V.str)) hp2
          refine ⟨p2, rfl, ⟨_, SqL.of upd_same⟩, fun D hD => lcB_list (K := K) (a := p2) (ys := Txt.split z ".") (j := 1) isNameS hD (SqL.of upd_same) (small20' hsz) (fun y hy H Q sm k => ?_) (fun H2 sm hL => ?_)⟩
          · refine ⟨_, rfl, _, rfl, .str y, fun s e => ?_, k⟩
            cases e
            exact Nat.lt_of_le_of_lt (PyProof.Rows.part_short hy) hz2
          · refine ⟨_, _, rfl, SqL.of hL, ?_⟩
            rw [all_map]
            exact q _ ((s1.trans s2).trans sm)
        · have e2 : ¬ ((Txt.split z ".").length ≤ 60) := by
            intro h
            refine e (decide_eq_true ?_)
            rw [List.length_map]; omega
          rw [decide_eq_false e2, Bool.false_and] at q
          exact q _ s1
end
end My

namespace My
open PySem PySem.Spec PyProof.Rows L2
def signV (c : Nat) : V := .str ⟨#[c]⟩
/-- list(s) of a text -/
theorem call_list_signs {X : Cx} (hc : X.calm = true) : CallR X (.type "list") (fun xs H Q => ∃ z : Str, xs = [.str z] ∧ z.length ≤ sizeLine ∧ ∀ q, H q = none → Q (.ref q) (upd H q (.lst (z.cps.toList.map signV)))) := by
  intro pins s σ H xs us Q I r h
  obtain ⟨z, rfl, hz, q⟩ := h
  obtain ⟨u, rfl, t, rfl⟩ := vals1 r
  refine call_list_str (I.ok.hd hc) z t (fun h' tk acc c hk hS hacc => ?_) hz
  refine ⟨.ref s.heap.objs.size, upd H s.heap.objs.size (.lst (z.cps.toList.map signV)), I.laid hk (Nat.le_refl _) (show ObjOk X.prog X.w _ _ _ (.lst (z.cps.toList.map signV)) from ⟨?_, acc.toList, c, ?_, ?_⟩), rfl, q _ (I.hok.fresh (Nat.le_refl _))⟩
  · rw [List.length_map, Array.length_toList]; exact hz
  · refine vals_of_at (by rw [List.length_map, Array.length_toList, Array.length_toList, hacc.1]) ?_
    intro j x w h1 h2
    obtain ⟨c, t, e1, e2⟩ := hacc.2 j w (by rw [← Array.getElem?_toList]; exact h2)
    rw [List.getElem?_map, Array.getElem?_toList, e1] at h1
    cases h1
    exact ⟨t, e2⟩
  · rw [Array.toArray_toList]; exact hS
theorem join_signs (L : List Nat) : Txt.join "" (L.map fun c => (⟨#[c]⟩ : Str)) = ⟨L.toArray⟩ := by
  have e := PyProof.Rows.join_nil_signs ⟨L.toArray⟩
  have e2 : Txt.join "" (PyProof.Rows.signs ⟨L.toArray⟩) = Str.join ⟨#[]⟩ (PyProof.Rows.signs ⟨L.toArray⟩) := beq_iff_eq.mp (PyProof.Rows.join_closes rfl)
  exact e2.trans e
def wordsW : List Str := ["p", "q1", "n0", "step", "end", "mean", "meant", "a2345678", "a23456789", "A", "1a", "", "p q", "off"]
/-- _law_word(pot) -/
def spWord : Sp := fun vs H Q _ => ∃ (p : Addr) (n : Nat), vs = [.ref p] ∧ PotAt H p n ∧ n < 2 ^ 60 ∧ ∀ s H', s ∈ wordsW → But p H H' → PotAt H' p (n + 1) → Q (.str s) H'
/-- _law_integer(pot) -/
def spInteger : Sp := fun vs H Q _ => ∃ (p : Addr) (n : Nat), vs = [.ref p] ∧ PotAt H p n ∧ n < 2 ^ 50 ∧ ∀ i H', i.natAbs < 10 ^ 200 → But p H H' → PotAt H' p (n + 300) → Q (.int i) H'
theorem PotAt.ne {H : Hp} {p q : Addr} {n : Nat} (h : PotAt H p n) (e : H q = none) : q ≠ p := by
  obtain ⟨_, _, _, h1, _⟩ := h
  exact (ne_of_none h1 e).symm
section
variable {P : Program} {w : World} {K : PySem.W.Frag} {mg : Str → Option Value} {base : Heap} {A : Nat → Addr} {D : Nat → FuncData}
theorem ok_word (T : Txt K mg A D) : FnG P w K mg base CX0 3 (A 18) (D 18) ["pot"] spWord := by
  have G__law_of := ok_of (P := P) (w := w) (base := base) T
  refine def_ok0 T.F__law_word sc__law_word (fun vs H Q E h => ?_) (fun cdv Ar outer s H vs Q E hr hG h => ?_)
  · obtain ⟨p, n, rfl, _⟩ := h; rfl
  · obtain ⟨p, n, rfl, hp, hn, q⟩ := h
    refine ⟨_, (pss_cons (ps_set (i := 1) sc__law_word.nd rfl (Or.inl rfl) (pe_lst (pa_cons pe_str (pa_cons pe_str (pa_cons pe_str (pa_cons pe_str (pa_cons pe_str (pa_cons pe_str (pa_cons pe_str (pa_cons pe_str (pa_cons pe_str (pa_cons pe_str (pa_cons pe_str (pa_cons pe_str (pa_cons pe_str (pa_cons pe_str pa_nil))))))))))))))))
      (pss_one (ps_ret (pe_cg G__law_of (hr.mono (by decide)) hG (by rfl) T.g__law_of T.F__law_of.kp T.b__law_of pass0 (pa_cons (pv 0) (pa_cons (pv 1) pa_nil)))))), ?_⟩
    refine ⟨(by show 14 ≤ sizeLine; decide), fun l hl => ?_⟩
    refine ⟨_, rfl, _, rfl, p, l, wordsW.map V.str, n, rfl, hp.same (same_upd hl), hn, hp.ne hl, SqL.of upd_same, (by decide), (by decide), fun x H' hx b hp' => ?_⟩
    obtain ⟨s, hs, rfl⟩ := List.mem_map.mp hx
    exact q s H' hs ((But.of (same_upd hl)).trans b) hp'
theorem ok_integer (T : Txt K mg A D) : FnG P w K mg base CX0 3 (A 13) (D 13) ["pot"] spInteger := by
  have G__law_of := ok_of (P := P) (w := w) (base := base) T
  refine def_ok0 T.F__law_integer sc__law_integer (fun vs H Q E h => ?_) (fun cdv Ar outer s H vs Q E hr hG h => ?_)
  · obtain ⟨p, n, rfl, _⟩ := h; rfl
  · obtain ⟨p, n, rfl, hp, hn, q⟩ := h
    refine ⟨_, (pss_cons (ps_set (i := 1) sc__law_integer.nd rfl (Or.inl rfl) (pe_join pe_str (pe_lc (own := [("lap", 2)]) (g := gName 2) (tt := tYes) (by rfl) sc__law_integer.nd (pi_range1 rfl T.n_range (pa_cons (pe_op op_add pe_int (pe_cg G__law_of (hr.mono (by decide)) hG (by rfl) T.g__law_of T.F__law_of.kp T.b__law_of pass0 (pa_cons (pv 0) (pa_cons (pe_lst (pa_cons pe_int (pa_cons pe_int (pa_cons pe_int (pa_cons pe_int (pa_cons pe_int (pa_cons pe_int pa_nil))))))) pa_nil)))) pa_nil)) (blkOk_by (own := [("lap", 2)]) (N := ["pot", "figures", "lap"]) (sc := defScope s__law_integer) (by decide +kernel)) (fun _ _ _ _ _ => pg_name (i := 2) sc__law_integer.nd rfl (Or.inl rfl)) (fun _ _ _ _ _ => pts_nil) (fun _ _ _ _ _ => (pe_cg G__law_of (hr.mono (by decide)) hG (by rfl) T.g__law_of T.F__law_of.kp T.b__law_of pass0 (pa_cons (pv 0) (pa_cons (pe_callTy (call_list_signs rfl) (by rfl) T.n_list (by decide +kernel) (pa_cons pe_str pa_nil)) pa_nil)))))))
      (pss_one (ps_ret (pe_op op_mulW (pe_callTy call_int_str (by rfl) T.n_int (by decide +kernel) (pa_cons (pv 1) pa_nil)) (pe_cg G__law_of (hr.mono (by decide)) hG (by rfl) T.g__law_of T.F__law_of.kp T.b__law_of pass0 (pa_cons (pv 0) (pa_cons (pe_lst (pa_cons pe_int (pa_cons pe_int (pa_cons (pe_un un_neg pe_int) pa_nil)))) pa_nil))))))), ?_⟩
    refine ⟨⟨_, rfl⟩, ?_⟩
    refine ⟨_, rfl, (by show 6 ≤ sizeLine; decide), fun l hl => ?_⟩
    refine ⟨p, l, [.int 0, .int 0, .int 1, .int 5, .int 30, .int 199], n, rfl, hp.same (same_upd hl), by omega, hp.ne hl, SqL.of upd_same, (by decide), (by decide), fun x H1 hx b1 hp1 => ?_⟩
    obtain ⟨m, rfl, hm⟩ : ∃ m : Nat, x = .int (m : Int) ∧ m ≤ 199 := by
      simp only [List.mem_cons, List.not_mem_nil, or_false] at hx
      rcases hx with rfl | rfl | rfl | rfl | rfl | rfl
      · exact ⟨0, rfl, by decide⟩
      · exact ⟨0, rfl, by decide⟩
      · exact ⟨1, rfl, by decide⟩
      · exact ⟨5, rfl, by decide⟩
      · exact ⟨30, rfl, by decide⟩
      · exact ⟨199, rfl, by decide⟩
    have B1 : But p H H1 := (But.of (same_upd hl)).trans b1
    refine ⟨1, m, rfl, rfl, _, rfl, (by omega), (by omega), fun D hD => ?_⟩
    have hDp : D ≠ p := hp1.ne hD
    obtain ⟨nn, hnn⟩ : ∃ nn : Nat, nn = (1 + (m : Int)).toNat := ⟨_, rfl⟩
    have hnm : nn = m + 1 := by omega
    refine lc_range (lo := 0) (n := (1 + (m : Int)).toNat) (vs := [2]) (fun i H' => ∃ L : List Nat, L.length = i ∧ (∀ c ∈ L, 48 ≤ c ∧ c ≤ 57) ∧ H' D = some (.lst (L.map signV)) ∧ PotAt H' p (n + 1 + i) ∧ But p H1 H') ?_ ?_ ?_
    · exact ⟨[], rfl, (fun c h => absurd h List.not_mem_nil), upd_same, hp1.same (same_upd hD), But.of (same_upd hD)⟩
    · rintro i H2 hi ⟨L, hL, hd, hl2, hp2, b2⟩
      rw [← hnn] at hi
      refine ⟨rfl, ?_⟩
      refine ⟨_, rfl, _, rfl, by decide, fun l2 h2 => ?_⟩
      have s2 := same_upd (o := .lst (("0123456789" : Str).cps.toList.map signV)) h2
      refine ⟨p, l2, _, n + 1 + i, rfl, hp2.same s2, by omega, hp2.ne h2, SqL.of upd_same, by decide, by decide, fun x H3 hx b3 hp3 => ?_⟩
      obtain ⟨c, hc, rfl⟩ := List.mem_map.mp hx
      have hc2 := (dig_iff c).mp (decide_eq_true hc)
      refine ⟨L.map signV, b3 _ _ hDp (s2 _ _ hl2), ?_, L ++ [c], by simp [hL], ?_, ?_, ?_, ?_⟩
      · rw [List.length_map]; exact small20' (by omega)
      · intro d hd2
        rcases List.mem_append.mp hd2 with hd2 | hd2
        · exact hd d hd2
        · rw [List.mem_singleton.mp hd2]; exact hc2
      · rw [upd_same, List.map_append]; rfl
      · obtain ⟨o1, s1, c1, e1, e2⟩ := hp3
        exact ⟨o1, s1, c1, by rw [upd_ne hDp.symm]; exact e1, e2⟩
      · intro b o ne e
        rw [upd_ne (ne_of_none e hD)]
        exact (b2.trans ((But.of s2).trans b3)) b o ne e
    · rintro H2 ⟨L, hL, hd, hl2, hp2, b2⟩
      rw [← hnn] at hL hp2
      refine ⟨"", D, L.map (fun c => (⟨#[c]⟩ : Str)), rfl, rfl, .inl (SqL.of (by rw [List.map_map]; exact hl2)), ?_, ?_⟩
      · have e : ∀ M : List Nat, ((M.map (fun c => (⟨#[c]⟩ : Str))).map (·.length)).sum = M.length := by
          intro M
          induction M with
          | nil => rfl
          | cons x r ih =>
            rw [List.map_cons, List.map_cons, List.sum_cons, ih, List.length_cons]
            show 1 + r.length = _
            omega
        rw [e L, List.length_map]
        show L.length + L.length * 0 ≤ _
        omega
      rw [join_signs]
      have hc : (⟨L.toArray⟩ : Str).cps.toList = L := rfl
      have hne : L ≠ [] := by
        intro z
        subst z
        simp at hL
        omega
      have hlen : (⟨L.toArray⟩ : Str).length = L.length := List.size_toArray
      have ev : intText? ⟨L.toArray⟩ = some ((NumText.digitsVal L : Nat) : Int) := intText_digits (x := ⟨L.toArray⟩) hd hne (by rw [hlen]; omega)
      have bound : NumText.digitsVal L < 10 ^ 200 := by
        have b := digits_lt L 0 hd
        unfold NumText.digitsVal
        refine Nat.lt_of_lt_of_le b ?_
        rw [Nat.zero_add, Nat.one_mul]
        exact Nat.pow_le_pow_right (by decide) (by omega)
      refine ⟨_, rfl, ⟨L.toArray⟩, _, rfl, ev, by rw [hlen]; omega, _, rfl, 1, rfl, (by show 3 ≤ sizeLine; decide), fun l3 h3 => ?_⟩
      have s3 := same_upd (o := .lst [.int 1, .int 1, .int (-1)]) h3
      refine ⟨p, l3, _, n + 1 + nn, rfl, hp2.same s3, by omega, hp2.ne h3, SqL.of upd_same, by decide, by decide, fun x H3 hx b3 hp3 => ?_⟩
      have hx1 : ∃ k : Int, x = .int k ∧ (k = 1 ∨ k = -1) := by
        simp only [List.mem_cons, List.not_mem_nil, or_false] at hx
        rcases hx with rfl | rfl | rfl
        · exact ⟨1, rfl, .inl rfl⟩
        · exact ⟨1, rfl, .inl rfl⟩
        · exact ⟨-1, rfl, .inr rfl⟩
      obtain ⟨k, rfl, hk⟩ := hx1
      have hd1 : (((NumText.digitsVal L : Nat) : Int)).natAbs < 2 ^ 1000 := Nat.lt_trans (show ((NumText.digitsVal L : Nat) : Int).natAbs < 10 ^ 200 by omega) (by decide +kernel)
      refine ⟨_, k, rfl, rfl, wide_mul (b := 2) hd1 (by rcases hk with rfl | rfl <;> decide) (by decide) (by decide) (by decide), ?_⟩
      refine q _ _ ?_ (((B1.trans b2).trans (But.of s3)).trans b3) (hp3.mono (by omega))
      rcases hk with rfl | rfl
      · omega
      · omega
end
end My

namespace My
open PySem PySem.Spec PyProof.Rows L2
/-- values of any kind, as drawn; p: the pot -/
inductive Odd (p : Addr) (H : Hp) : V → Prop where
  | non : Odd p H .non
  | bl (b : Bool) : Odd p H (.bl b)
  | int (i : Int) (h : i.natAbs < 2 ^ 1000) : Odd p H (.int i)
  | str (s : Str) (h : s.length < 100) : Odd p H (.str s)
  | tup {a : Addr} {xs : List V} (e : H a = some (.tup xs)) (h : ∀ x ∈ xs, Odd p H x) : Odd p H (.ref a)
  | lst {a : Addr} {xs : List V} (n : a ≠ p) (e : H a = some (.lst xs)) : Odd p H (.ref a)
  | dct {a : Addr} {kvs : List (Key × V)} (e : H a = some (.dK kvs)) : Odd p H (.ref a)
theorem Odd.but {p : Addr} {H H' : Hp} {ys : List V} (hp : H p = some (.lst ys)) (b : But p H H') : ∀ {v : V}, Odd p H v → Odd p H' v := by
  intro v o
  induction o with
  | non => exact .non
  | bl b => exact .bl b
  | int i h => exact .int i h
  | str s h => exact .str s h
  | tup e _ ih => exact .tup (b _ _ (fun z => by subst z; rw [hp] at e; cases e) e) ih
  | lst n e => exact .lst n (b _ _ n e)
  | dct e => exact .dct (b _ _ (fun z => by subst z; rw [hp] at e; cases e) e)
theorem Odd.same {p : Addr} {H H' : Hp} (b : Same H H') : ∀ {v : V}, Odd p H v → Odd p H' v := by
  intro v o
  induction o with
  | non => exact .non
  | bl b => exact .bl b
  | int i h => exact .int i h
  | str s h => exact .str s h
  | tup e _ ih => exact .tup (b _ _ e) ih
  | lst n e => exact .lst n (b _ _ e)
  | dct e => exact .dct (b _ _ e)
theorem Odd.known {p : Addr} {H : Hp} {v : V} (o : Odd p H v) : Known H v := by
  cases o with
  | non => exact .non
  | bl b => exact .bl b
  | int i h => exact .int i
  | str s h => exact .str s
  | tup e h => exact .tup e
  | lst n e => exact .lst e
  | dct e => exact .dct e
theorem PotAt.lst {H : Hp} {p : Addr} {n : Nat} (h : PotAt H p n) : ∃ ys, H p = some (.lst ys) := by
  obtain ⟨_, _, _, h1, _⟩ := h
  exact ⟨_, h1⟩
/-- _law_odd(pot) -/
def spOdd : Sp := fun vs H Q _ => ∃ (p : Addr) (n : Nat), vs = [.ref p] ∧ PotAt H p n ∧ n < 2 ^ 50 ∧ ∀ v H', Odd p H' v → But p H H' → PotAt H' p (n + 10) → Q v H'
section
variable {P : Program} {w : World} {K : PySem.W.Frag} {mg : Str → Option Value} {base : Heap} {A : Nat → Addr} {D : Nat → FuncData}
theorem ok_odd (T : Txt K mg A D) : FnG P w K mg base CX0 3 (A 12) (D 12) ["pot"] spOdd := by
  have G__law_of := ok_of (P := P) (w := w) (base := base) T
  have G__law_take := ok_take (P := P) (w := w) (base := base) T
  refine def_ok0 T.F__law_odd sc__law_odd (fun vs H Q E h => ?_) (fun cdv Ar outer s H vs Q E hr hG h => ?_)
  · obtain ⟨p, n, rfl, _⟩ := h; rfl
  · obtain ⟨p, n, rfl, hp, hn, q⟩ := h
    refine ⟨_, (pss_cons (ps_set (i := 1) sc__law_odd.nd rfl (Or.inl rfl) (pe_lst (pa_cons pe_non (pa_cons pe_bl (pa_cons pe_bl (pa_cons pe_int (pa_cons (pe_un un_neg pe_int) (pa_cons pe_int (pa_cons (pe_op op_powB pe_int pe_int) (pa_cons pe_str (pa_cons pe_str (pa_cons pe_str (pa_cons pe_str (pa_cons (pe_tup pa_nil) (pa_cons (pe_lst pa_nil) (pa_cons pe_dnewK (pa_cons (pe_tup (pa_cons pe_str pa_nil)) (pa_cons (pe_lst (pa_cons pe_str pa_nil)) (pa_cons (pe_tup (pa_cons pe_int (pa_cons pe_int pa_nil))) (pa_cons (pe_tup (pa_cons pe_non (pa_cons (pe_tup pa_nil) pa_nil))) pa_nil))))))))))))))))))))
      (pss_cons (ps_set (i := 2) sc__law_odd.nd rfl (Or.inl rfl) (pe_cg G__law_of (hr.mono (by decide)) hG (by rfl) T.g__law_of T.F__law_of.kp T.b__law_of pass0 (pa_cons (pv 0) (pa_cons (pv 1) pa_nil))))
      (pss_cons (ps_for PassesOwn.never rfl (pi_range1 rfl T.n_range (pa_cons (pe_cg G__law_take (hr.mono (by decide)) hG (by rfl) T.g__law_take T.F__law_take.kp T.b__law_take pass0 (pa_cons (pv 0) (pa_cons pe_int pa_nil))) pa_nil)) (pg_name (i := 3) sc__law_odd.nd rfl (Or.inl rfl)) (pss_one (ps_set (i := 2) sc__law_odd.nd rfl (Or.inl rfl) (pe_cg G__law_of (hr.mono (by decide)) hG (by rfl) T.g__law_of T.F__law_of.kp T.b__law_of pass0 (pa_cons (pv 0) (pa_cons (pe_lst (pa_cons (pe_tup (pa_cons (pv 2) pa_nil)) (pa_cons (pe_lst (pa_cons (pv 2) pa_nil)) (pa_cons (pe_disp (pps_cons pe_str (pv 2) pps_nil) (by rfl) (by rfl) (fun z => by cases z) (by decide)) (pa_cons (pe_tup (pa_cons (pv 2) (pa_cons (pv 2) pa_nil))) (pa_cons (pe_tup (pa_cons pe_str (pa_cons (pv 2) pa_nil))) pa_nil)))))) pa_nil))))))
      (pss_one (ps_ret (pv 2)))))), ?_⟩
    refine ⟨1, rfl, 10, 9, rfl, rfl, powB 10 (by decide) (by decide) (by decide) (by decide), (by show 0 ≤ sizeLine; decide), fun t1 h1 => ?_⟩
    have S1 : Same H (upd H t1 (.tup [])) := same_upd h1
    have e1 : (upd H t1 (.tup [])) t1 = some (.tup []) := upd_same
    generalize (upd H t1 (.tup [])) = H1 at S1 e1 ⊢
    refine ⟨(by show 0 ≤ sizeLine; decide), fun l1 h2 => ?_⟩
    have S2 : Same H1 (upd H1 l1 (.lst [])) := same_upd h2
    have e2 : (upd H1 l1 (.lst [])) l1 = some (.lst []) := upd_same
    have n1 := (hp.same S1).ne h2
    generalize (upd H1 l1 (.lst [])) = H2 at S2 e2 ⊢
    refine fun d1 h3 => ?_
    have S3 : Same H2 (upd H2 d1 (.dK [])) := same_upd h3
    have e3 : (upd H2 d1 (.dK [])) d1 = some (.dK []) := upd_same
    generalize (upd H2 d1 (.dK [])) = H3 at S3 e3 ⊢
    refine ⟨(by show 1 ≤ sizeLine; decide), fun t2 h4 => ?_⟩
    have S4 : Same H3 (upd H3 t2 (.tup [.str "a"])) := same_upd h4
    have e4 : (upd H3 t2 (.tup [.str "a"])) t2 = some (.tup [.str "a"]) := upd_same
    generalize (upd H3 t2 (.tup [.str "a"])) = H4 at S4 e4 ⊢
    refine ⟨(by show 1 ≤ sizeLine; decide), fun l2 h5 => ?_⟩
    have S5 : Same H4 (upd H4 l2 (.lst [.str "a"])) := same_upd h5
    have e5 : (upd H4 l2 (.lst [.str "a"])) l2 = some (.lst [.str "a"]) := upd_same
    have n2 := (hp.same (((S1.trans S2).trans S3).trans S4)).ne h5
    generalize (upd H4 l2 (.lst [.str "a"])) = H5 at S5 e5 ⊢
    refine ⟨(by show 2 ≤ sizeLine; decide), fun t3 h6 => ?_⟩
    have S6 : Same H5 (upd H5 t3 (.tup [.int 1, .int 2])) := same_upd h6
    have e6 : (upd H5 t3 (.tup [.int 1, .int 2])) t3 = some (.tup [.int 1, .int 2]) := upd_same
    generalize (upd H5 t3 (.tup [.int 1, .int 2])) = H6 at S6 e6 ⊢
    refine ⟨(by show 0 ≤ sizeLine; decide), fun t4 h7 => ?_⟩
    have S7 : Same H6 (upd H6 t4 (.tup [])) := same_upd h7
    have e7 : (upd H6 t4 (.tup [])) t4 = some (.tup []) := upd_same
    generalize (upd H6 t4 (.tup [])) = H7 at S7 e7 ⊢
    refine ⟨(by show 2 ≤ sizeLine; decide), fun t5 h8 => ?_⟩
    have S8 : Same H7 (upd H7 t5 (.tup [.non, .ref t4])) := same_upd h8
    have e8 : (upd H7 t5 (.tup [.non, .ref t4])) t5 = some (.tup [.non, .ref t4]) := upd_same
    generalize (upd H7 t5 (.tup [.non, .ref t4])) = H8 at S8 e8 ⊢
    refine ⟨(by show 18 ≤ sizeLine; decide), fun L h9 => ?_⟩
    have S18 := (((((((S1.trans S2).trans S3).trans S4).trans S5).trans S6).trans S7).trans S8)
    obtain ⟨xs, hxs⟩ : ∃ xs : List V, xs = [.non, .bl true, .bl false, .int 0, .int (-1), .int 7, .int (10 ^ (9 : Int).toNat), .str "", .str "a", .str "p", .str "holds", .ref t1, .ref l1, .ref d1, .ref t2, .ref l2, .ref t3, .ref t5] := ⟨_, rfl⟩
    have odd8 : ∀ x ∈ xs, Odd p H8 x := by
      intro x hx
      rw [hxs] at hx
      simp only [List.mem_cons, List.not_mem_nil, or_false] at hx
      have g4 : Odd p H8 (.ref t4) := .tup (S8 _ _ e7) (fun x hx => absurd hx List.not_mem_nil)
      rcases hx with rfl | rfl | rfl | rfl | rfl | rfl | rfl | rfl | rfl | rfl | rfl | rfl | rfl | rfl | rfl | rfl | rfl | rfl
      · exact .non
      · exact .bl _
      · exact .bl _
      · exact .int _ (by decide +kernel)
      · exact .int _ (by decide +kernel)
      · exact .int _ (by decide +kernel)
      · exact .int _ (by decide +kernel)
      · exact .str _ (by decide)
      · exact .str _ (by decide)
      · exact .str _ (by decide)
      · exact .str _ (by decide)
      · exact .tup (S8 _ _ (S7 _ _ (S6 _ _ (S5 _ _ (S4 _ _ (S3 _ _ (S2 _ _ e1))))))) (fun x hx => absurd hx List.not_mem_nil)
      · exact .lst n1 (S8 _ _ (S7 _ _ (S6 _ _ (S5 _ _ (S4 _ _ (S3 _ _ e2))))))
      · exact .dct (S8 _ _ (S7 _ _ (S6 _ _ (S5 _ _ (S4 _ _ e3)))))
      · refine .tup (S8 _ _ (S7 _ _ (S6 _ _ (S5 _ _ e4)))) (fun x hx => ?_)
        rw [List.mem_singleton.mp hx]; exact .str _ (by decide)
      · exact .lst n2 (S8 _ _ (S7 _ _ (S6 _ _ e5)))
      · refine .tup (S8 _ _ (S7 _ _ e6)) (fun x hx => ?_)
        simp only [List.mem_cons, List.not_mem_nil, or_false] at hx
        rcases hx with rfl | rfl <;> exact .int _ (by decide +kernel)
      · refine .tup e8 (fun x hx => ?_)
        simp only [List.mem_cons, List.not_mem_nil, or_false] at hx
        rcases hx with rfl | rfl
        · exact .non
        · exact g4
    have S9 : Same H8 (upd H8 L (.lst xs)) := same_upd h9
    have S19 := S18.trans S9
    have hp9 := hp.same S19
    refine ⟨_, rfl, _, rfl, p, L, xs, n, rfl, by rw [hxs] at hp9; exact hp9, by omega, (hp.same S18).ne h9, SqL.of (by rw [hxs]; exact upd_same), by rw [hxs]; exact List.cons_ne_nil _ _, by rw [hxs]; show 18 < 2 ^ 24; decide, fun x H10 hx b10 hp10 => ?_⟩
    rw [hxs] at S9 S19 hp9
    obtain ⟨ys, hys⟩ := hp9.lst
    have ox : Odd p H10 x := ((odd8 x hx).same S9).but hys b10
    have B10 : But p H H10 := (But.of S19).trans b10
    refine ⟨_, rfl, p, 3, n + 1, rfl, hp10, by omega, by decide, by decide, fun j H11 j0 j1 b11 hp11 => ?_⟩
    obtain ⟨ys2, hys2⟩ := hp10.lst
    refine ⟨j, rfl, by omega, by omega, for_range (lo := 0) (n := j.toNat) (fun i σ H' => ∃ v u, σ = [some (.ref p), some (.ref L), some v, u] ∧ Odd p H' v ∧ PotAt H' p (n + 2 + i) ∧ But p H H') ⟨x, none, rfl, ox.but hys2 b11, hp11.mono (by omega), B10.trans b11⟩ ?_ ?_⟩
    · rintro i σ H12 hi ⟨v, u, rfl, ov, hp12, b12⟩
      refine ⟨_, rfl, _, rfl, (by show 1 ≤ sizeLine; decide), fun a1 k1 => ?_⟩
      have T1 : Same H12 (upd H12 a1 (.tup [v])) := same_upd k1
      have f1 : (upd H12 a1 (.tup [v])) a1 = some (.tup [v]) := upd_same
      generalize (upd H12 a1 (.tup [v])) = G1 at T1 f1 ⊢
      refine ⟨_, rfl, (by show 1 ≤ sizeLine; decide), fun a2 k2 => ?_⟩
      have T2 : Same G1 (upd G1 a2 (.lst [v])) := same_upd k2
      have f2 : (upd G1 a2 (.lst [v])) a2 = some (.lst [v]) := upd_same
      have m2 := (hp12.same T1).ne k2
      generalize (upd G1 a2 (.lst [v])) = G2 at T2 f2 ⊢
      refine fun a3 k3 => ?_
      refine ⟨_, rfl, upd_same, [(Sum.inr "k", v)], rfl, by show 1 ≤ 15; decide, ?_⟩
      rw [upd_upd]
      have T3 : Same G2 (upd G2 a3 (.dK (mergeK [] [(Sum.inr "k", v)]))) := same_upd k3
      have f3 : (upd G2 a3 (.dK (mergeK [] [(Sum.inr "k", v)]))) a3 = some (.dK (mergeK [] [(Sum.inr "k", v)])) := upd_same
      generalize (upd G2 a3 (.dK (mergeK [] [(Sum.inr "k", v)]))) = G3 at T3 f3 ⊢
      refine ⟨_, rfl, _, rfl, (by show 2 ≤ sizeLine; decide), fun a4 k4 => ?_⟩
      have T4 : Same G3 (upd G3 a4 (.tup [v, v])) := same_upd k4
      have f4 : (upd G3 a4 (.tup [v, v])) a4 = some (.tup [v, v]) := upd_same
      generalize (upd G3 a4 (.tup [v, v])) = G4 at T4 f4 ⊢
      refine ⟨_, rfl, (by show 2 ≤ sizeLine; decide), fun a5 k5 => ?_⟩
      have T5 : Same G4 (upd G4 a5 (.tup [.str "at", v])) := same_upd k5
      have f5 : (upd G4 a5 (.tup [.str "at", v])) a5 = some (.tup [.str "at", v]) := upd_same
      generalize (upd G4 a5 (.tup [.str "at", v])) = G5 at T5 f5 ⊢
      refine ⟨(by show 5 ≤ sizeLine; decide), fun M k6 => ?_⟩
      have T15 := (((T1.trans T2).trans T3).trans T4).trans T5
      have ov5 := ov.same T15
      have T6 : Same G5 (upd G5 M (.lst [.ref a1, .ref a2, .ref a3, .ref a4, .ref a5])) := same_upd k6
      have odds : ∀ x ∈ [V.ref a1, .ref a2, .ref a3, .ref a4, .ref a5], Odd p G5 x := by
        intro x hx
        simp only [List.mem_cons, List.not_mem_nil, or_false] at hx
        rcases hx with rfl | rfl | rfl | rfl | rfl
        · refine .tup (T5 _ _ (T4 _ _ (T3 _ _ (T2 _ _ f1)))) (fun x hx => ?_)
          rw [List.mem_singleton.mp hx]; exact ov5
        · exact .lst m2 (T5 _ _ (T4 _ _ (T3 _ _ f2)))
        · exact .dct (T5 _ _ (T4 _ _ f3))
        · refine .tup (T5 _ _ f4) (fun x hx => ?_)
          simp only [List.mem_cons, List.not_mem_nil, or_false] at hx
          rcases hx with rfl | rfl <;> exact ov5
        · refine .tup f5 (fun x hx => ?_)
          simp only [List.mem_cons, List.not_mem_nil, or_false] at hx
          rcases hx with rfl | rfl
          · exact .str _ (by decide)
          · exact ov5
      have hpG := (hp12.same T15).same T6
      refine ⟨p, M, _, n + 2 + i, rfl, hpG, by omega, (hp12.same T15).ne k6, SqL.of upd_same, List.cons_ne_nil _ _, by show 5 < 2 ^ 24; decide, fun y H13 hy b13 hp13 => ?_⟩
      obtain ⟨ys3, hys3⟩ := hpG.lst
      exact ⟨y, _, rfl, ((odds y hy).same T6).but hys3 b13, hp13, (b12.trans (But.of (T15.trans T6))).trans b13⟩
    · rintro σ H12 ⟨v, u, rfl, ov, hp12, b12⟩
      exact ⟨_, rfl, q v H12 ov b12 (hp12.mono (by omega))⟩
end
end My

namespace My
open PySem PySem.Spec PyProof.Rows L2 TL
/-! ### parts between strokes -/
theorem pre1 (s c : Nat) (r : List Nat) : TL.pre [s] (c :: r) = decide (c = s) := by
  unfold TL.pre
  show (([c] : List Nat) == [s]) = _
  by_cases h : c = s
  · subst h; simp
  · simp [h]
theorem spl1 (s : Nat) : ∀ (l acc r : List Nat), s ∉ l → TL.spl [s] 0 acc (l ++ s :: r) = (acc ++ l) :: TL.spl [s] 0 [] r
  | [], acc, r, _ => by
    rw [List.nil_append, TL.spl_hit (by rw [pre1]; exact decide_eq_true rfl), List.append_nil]; rfl
  | c :: l, acc, r, h => by
    have hc : c ≠ s := fun z => h (by rw [z]; exact List.mem_cons_self)
    have hl : s ∉ l := fun z => h (List.mem_cons_of_mem _ z)
    show TL.spl [s] 0 acc (c :: (l ++ s :: r)) = _
    rw [TL.spl_miss (by rw [pre1, decide_eq_false hc]), spl1 s l (acc ++ [c]) r hl, List.append_assoc]; rfl
theorem spl0 (s : Nat) : ∀ (l acc : List Nat), s ∉ l → TL.spl [s] 0 acc l = [acc ++ l]
  | [], acc, _ => by rw [TL.spl_nil, List.append_nil]
  | c :: l, acc, h => by
    have hc : c ≠ s := fun z => h (by rw [z]; exact List.mem_cons_self)
    have hl : s ∉ l := fun z => h (List.mem_cons_of_mem _ z)
    rw [TL.spl_miss (by rw [pre1, decide_eq_false hc]), spl0 s l (acc ++ [c]) hl, List.append_assoc]; rfl
theorem split_at (x : Str) (s : Nat) (hs : s < 256) : (Txt.split x ⟨#[s]⟩).map TL.tl = TL.spl [s] 0 [] (TL.tl x) := by
  refine TL.split_spl x ⟨#[s]⟩ (by show [s] ≠ []; simp) (TL.kind_ok ?_)
  show (#[s] : Array Nat).all (· < 256) = true
  simp [hs]
theorem append_tl (a b : Str) : (a ++ b).cps.toList = a.cps.toList ++ b.cps.toList := by
  show (a.cps ++ b.cps).toList = _
  exact Array.toList_append
theorem map_tl_inj {l m : List Str} (h : l.map TL.tl = m.map TL.tl) : l = m := TL.map_tl_inj h
theorem split_one {x : Str} (h : 47 ∉ x.cps.toList) : Txt.split x "/" = [x] := by
  refine map_tl_inj ?_
  have e := split_at x 47 (by decide)
  rw [spl0 47 _ _ h] at e
  exact e
theorem split_two {x y : Str} (h : 47 ∉ x.cps.toList) (h2 : 47 ∉ y.cps.toList) : Txt.split (x ++ "/" ++ y) "/" = [x, y] := by
  refine map_tl_inj ?_
  have e := split_at (x ++ "/" ++ y) 47 (by decide)
  have e2 : TL.tl (x ++ "/" ++ y) = x.cps.toList ++ 47 :: y.cps.toList := by
    show (x ++ "/" ++ y).cps.toList = _
    rw [append_tl, append_tl, List.append_assoc]; rfl
  rw [e2, spl1 47 _ _ _ h, spl0 47 _ _ h2] at e
  exact e
/-! ### integers as text -/
theorem text_nat (n : Nat) : (toString ((n : Nat) : Int) : Str).cps.toList = numL n := tl_num n
theorem text_neg (n : Nat) : (toString (-((n + 1 : Nat) : Int)) : Str).cps.toList = 45 :: numL (n + 1) := by
  have e := PyProof.Rows.toString_neg (n := -((n + 1 : Nat) : Int)) (by omega)
  rw [e, show (0 - -((n + 1 : Nat) : Int)) = ((n + 1 : Nat) : Int) by omega]
  show tl (Str.ofString ("-" ++ toString ((n + 1 : Nat) : Int))) = _
  rw [tl_ofString, String.toList_append, List.map_append, ← tl_ofString (toString ((n + 1 : Nat) : Int)), tl_num]; rfl
theorem numL_le {n : Nat} (h : n < 10 ^ 300) : 1 ≤ (numL n).length ∧ (numL n).length ≤ 300 :=
  ⟨List.length_pos_iff.mpr (numL_ne n), numL_len (by decide) h⟩
theorem allDig (n : Nat) : (numL n).all digS = true := List.all_eq_true.mpr fun c hc => (dig_iff c).mpr (numL_digits n c hc)
theorem readInt_text {i : Int} (h : i.natAbs < 10 ^ 300) : readInt (toString i : Str) = some i := by
  obtain ⟨n, rfl | rfl⟩ : ∃ n : Nat, i = (n : Int) ∨ i = -((n + 1 : Nat) : Int) := by
    rcases Int.lt_or_le i 0 with z | z
    · exact ⟨i.natAbs - 1, .inr (by omega)⟩
    · exact ⟨i.natAbs, .inl (by omega)⟩
  · have hl := numL_le (n := n) (by omega)
    have ef : fig (toString ((n : Nat) : Int) : Str) = (toString ((n : Nat) : Int) : Str) := by
      rcases fig_of (toString ((n : Nat) : Int) : Str) with ⟨r, e1, _⟩ | ⟨e1, _⟩
      · rw [text_nat] at e1
        have := numL_digits n 45 (by rw [e1]; exact List.mem_cons_self)
        omega
      · exact e1
    have el : (toString ((n : Nat) : Int) : Str).length = (numL n).length := by rw [← text_nat]; exact Array.length_toList.symm
    have ok : okFig (toString ((n : Nat) : Int) : Str) = true := by
      unfold okFig
      rw [ef, text_nat, el, decide_eq_true hl.1, decide_eq_true hl.2, allDig]; rfl
    rw [readInt_of ok (int_num (by omega)), if_pos rfl]
  · have hl := numL_le (n := n + 1) (by omega)
    have ef : (fig (toString (-((n + 1 : Nat) : Int)) : Str)).cps.toList = numL (n + 1) := by
      rcases fig_of (toString (-((n + 1 : Nat) : Int)) : Str) with ⟨r, e1, e2⟩ | ⟨_, e2⟩
      · rw [text_neg] at e1
        rw [e2]
        exact (List.cons.inj e1).2.symm
      · exact absurd (text_neg n) (e2 _)
    have el : (fig (toString (-((n + 1 : Nat) : Int)) : Str)).length = (numL (n + 1)).length := by rw [← ef]; exact Array.length_toList.symm
    have el2 : (toString (-((n + 1 : Nat) : Int)) : Str).length = (numL (n + 1)).length + 1 := by
      have := text_neg n
      have e3 := congrArg List.length this
      rw [List.length_cons, Array.length_toList] at e3
      exact e3
    have ok : okFig (toString (-((n + 1 : Nat) : Int)) : Str) = true := by
      unfold okFig
      rw [ef, el, decide_eq_true hl.1, decide_eq_true hl.2, allDig]; rfl
    have ev := intText_neg (x := (toString (-((n + 1 : Nat) : Int)) : Str)) (text_neg n) (numL_digits _) (numL_ne _) (by omega)
    rw [numL_val] at ev
    rw [readInt_of ok ev, if_pos rfl]
theorem no_stroke (i : Int) : 47 ∉ (toString i : Str).cps.toList := by
  obtain ⟨n, rfl | rfl⟩ : ∃ n : Nat, i = (n : Int) ∨ i = -((n + 1 : Nat) : Int) := by
    rcases Int.lt_or_le i 0 with z | z
    · exact ⟨i.natAbs - 1, .inr (by omega)⟩
    · exact ⟨i.natAbs, .inl (by omega)⟩
  · rw [text_nat]; exact numL_free (by decide)
  · rw [text_neg]
    intro h
    rcases List.mem_cons.mp h with h | h
    · exact absurd h (by decide)
    · exact numL_free (by decide) h
theorem readFrac_text {a b : Int} (hb : 1 ≤ b) (hg : ((Int.gcd a b : Nat) : Int) = 1) (ka : a.natAbs < 10 ^ 300) (kb : b.natAbs < 10 ^ 300) : readFrac (fracText a b) = some (a, b) := by
  unfold readFrac fracText
  by_cases h : b = 1
  · subst h
    rw [if_pos rfl, split_one (no_stroke a)]
    show fracOf [readInt _] = _
    rw [readInt_text ka]; rfl
  · rw [if_neg h, split_two (no_stroke a) (no_stroke b)]
    show fracOf [readInt _, readInt _] = _
    rw [readInt_text ka, readInt_text kb]
    show (if _ then _ else _) = _
    rw [if_pos ⟨by omega, hg⟩]
end My

namespace My
open PySem PySem.Spec PyProof.Rows L2
theorem redu_ok {a b : Int} (hb : b ≠ 0) : 1 ≤ (redu a b).2 ∧ ((Int.gcd (redu a b).1 (redu a b).2 : Nat) : Int) = 1 ∧ (redu a b).1.natAbs ≤ a.natAbs ∧ (redu a b).2.natAbs ≤ b.natAbs := by
  have hg : 0 < Int.gcd a b := Int.gcd_pos_of_ne_zero_right _ hb
  obtain ⟨f, hf⟩ : ∃ f, f = redF b (Int.gcd a b : Nat) := ⟨_, rfl⟩
  have f0 : f ≠ 0 := by rw [hf]; unfold redF; split <;> omega
  have fa : f.natAbs = Int.gcd a b := by rw [hf]; unfold redF; split <;> omega
  have da : f ∣ a := by rw [← Int.natAbs_dvd, fa]; exact Int.gcd_dvd_left ..
  have db : f ∣ b := by rw [← Int.natAbs_dvd, fa]; exact Int.gcd_dvd_right ..
  obtain ⟨k, hk⟩ := da
  obtain ⟨l, hl⟩ := db
  have e1 : (redu a b).1 = k := by
    show a.fdiv (redF b (Int.gcd a b : Nat)) = k
    rw [← hf, hk, Int.mul_fdiv_cancel_left _ f0]
  have e2 : (redu a b).2 = l := by
    show b.fdiv (redF b (Int.gcd a b : Nat)) = l
    rw [← hf]
    conv => lhs; rw [hl]
    rw [Int.mul_fdiv_cancel_left _ f0]
  rw [e1, e2]
  have l0 : l ≠ 0 := by
    intro z
    rw [z, Int.mul_zero] at hl
    exact hb hl
  have hgcd : Int.gcd k l = 1 := by
    have z : Int.gcd a b = f.natAbs * Int.gcd k l := by
      rw [hk]
      conv => lhs; rw [hl]
      exact Int.gcd_mul_left ..
    rw [fa] at z
    have z2 : Int.gcd a b * Int.gcd k l = Int.gcd a b * 1 := by rw [Nat.mul_one]; exact z.symm
    exact Nat.eq_of_mul_eq_mul_left hg z2
  have hpos : 0 < l := by
    rcases Int.lt_or_le l 0 with z | z
    · exfalso
      by_cases hbp : 0 < b
      · have f1 : 0 < f := by rw [hf]; unfold redF; rw [if_pos hbp]; omega
        have := Int.mul_neg_of_pos_of_neg f1 z
        omega
      · have f1 : f < 0 := by rw [hf]; unfold redF; rw [if_neg hbp]; omega
        have := Int.mul_pos_of_neg_of_neg f1 z
        omega
    · omega
  refine ⟨by omega, by rw [hgcd]; rfl, ?_, ?_⟩
  · rw [hk, Int.natAbs_mul]
    exact Nat.le_mul_of_pos_left _ (by omega)
  · conv => rhs; rw [hl, Int.natAbs_mul]
    exact Nat.le_mul_of_pos_left _ (by omega)
theorem log_1000 {i : Int} (h : i.natAbs < 2 ^ 1000) : i.natAbs.log2 < 1920 := by
  have := PySem.Flt.log2_lt_of (show 0 < 1000 by decide) h
  omega
theorem len_1000 {i : Int} (h : i.natAbs < 2 ^ 1000) : (toString i : Str).length ≤ 1921 := PyProof.Rows.int_text_len_1921 (log_1000 h)
def fracBd (o : Option (Int × Int)) : Prop := ∀ a b, o = some (a, b) → a.natAbs < 2 ^ 1000 ∧ b.natAbs < 2 ^ 1000
theorem frac_show {o : Option (Int × Int)} (h : fracBd o) : (fracD o).showable = true ∧ (fracD o).hasDict = false ∧ (fracD o).depth ≤ 60 ∧ (fracD o).shown.length ≤ sizeLine ∧ ∀ i, fracD o = .int i → i.natAbs.log2 < 1920 := by
  match o, h with
  | none, _ => exact ⟨rfl, rfl, by decide, by rw [sizeLine_eq]; decide, fun i z => by cases z⟩
  | some (a, b), h =>
    obtain ⟨ka, kb⟩ := h a b rfl
    refine ⟨?_, rfl, by show 1 + max 0 (max 0 0) ≤ 60; decide, ?_, fun i z => by cases z⟩
    · show (decide _ && (decide _ && true)) = true
      rw [decide_eq_true (log_1000 ka), decide_eq_true (log_1000 kb)]; rfl
    · show ((("(" : Str) ++ ((toString a : Str) ++ ", " ++ (toString b : Str))) ++ (")" : Str)).length ≤ sizeLine
      have h1 := len_1000 ka
      have h2 := len_1000 kb
      rw [Str.length_append, Str.length_append, Str.length_append, Str.length_append, sizeLine_eq]
      have e1 : ("(" : Str).length = 1 := rfl
      have e2 : (", " : Str).length = 2 := rfl
      have e3 : (")" : Str).length = 1 := rfl
      omega
theorem readInt_bd {s : Str} {n : Int} (h : readInt s = some n) : n.natAbs < 2 ^ 1000 := by
  by_cases ok : okFig s = true
  · obtain ⟨m, e1, e2, e3, e4⟩ := readInt_fig ok
    rw [e4] at h
    split at h
    · cases h; exact e2
    · cases h
  · rw [readInt_no ok] at h; cases h
theorem readFrac_bd (w : Str) : fracBd (readFrac w) := by
  intro a b h
  unfold readFrac at h
  match hY : Txt.split w "/", h with
  | [], h => cases h
  | [x], h =>
    have h : fracOf [readInt x] = some (a, b) := h
    cases hx : readInt x with
    | none => rw [hx] at h; cases h
    | some n =>
      rw [hx] at h
      cases h
      exact ⟨readInt_bd hx, by decide +kernel⟩
  | [x, y], h =>
    have h : fracOf [readInt x, readInt y] = some (a, b) := h
    cases hx : readInt x with
    | none => rw [hx] at h; cases h
    | some n =>
      cases hy : readInt y with
      | none => rw [hx, hy] at h; cases h
      | some m =>
        rw [hx, hy] at h
        have h : (if 1 < m ∧ ((Int.gcd n m : Nat) : Int) = 1 then some (n, m) else none) = some (a, b) := h
        split at h
        · cases h; exact ⟨readInt_bd hx, readInt_bd hy⟩
        · cases h
  | x :: y :: z :: r, h =>
    have h : fracOf (readInt x :: readInt y :: readInt z :: r.map readInt) = some (a, b) := h
    cases hx : readInt x <;> cases hy : readInt y <;> rw [hx, hy] at h <;> cases h
theorem rep_frac {K : PySem.W.Frag} {H : Hp} {v : V} {o : Option (Int × Int)} {Q : VK} (d : Dp K H v (fracD o)) (h : fracBd o) (q : Q (.str (fracD o).shown) H) : rRep K [v] H Q := by
  obtain ⟨h1, h2, h3, h4, h5⟩ := frac_show h
  exact ⟨v, _, rfl, d, h1, h2, h3, h4, h5, q⟩
theorem rep_bool {K : PySem.W.Frag} {H : Hp} {b : Bool} {Q : VK} (q : Q (.str (PyData.bool b).shown) H) : rRep K [.bl b] H Q :=
  ⟨_, _, rfl, .bl b, rfl, rfl, by cases b <;> decide, by cases b <;> (rw [sizeLine_eq]; decide), (fun i z => by cases z), q⟩
theorem same_seqT {K : PySem.W.Frag} {H H' : Hp} {a : Addr} {xs : List V} (e : Same H H') (h : SqT K H a xs) : SqT K H' a xs := by
  rcases h with (h | ⟨o, h⟩) | h
  · exact .inl (.inl (e _ _ h))
  · exact .inl (.inr ⟨o, e _ _ h⟩)
  · exact .inr h
/-- over a tuple of values of known kinds -/
theorem lcB_tup {K : PySem.W.Frag} {a : Addr} {ys : List V} {te : TE} {j : Nat} {σ : L2.St} {H1 : Hp} {D : Addr} {Qd : Hp → Prop} (f : V → Bool) (hD : H1 D = none) (hS : SqT K H1 a ys) (hz : ys.length < sizeLine)
    (he : ∀ y, y ∈ ys → ∀ (H : Hp) (Q : VK), Same H1 H → (∀ H', Same H H' → Q (.bl (f y)) H') → te ((σ.set j none).set j (some y)) H Q)
    (hd : ∀ H, Same H1 H → H D = some (.lst ((ys.map f).map V.bl)) → Qd H) :
    ∃ W : Nat → Nat → Hp → Prop, (∃ m, W 0 m (upd H1 D (.lst []))) ∧ ∀ i m H, W i m H →
      ((Itt K a).stop i H ∧ Qd H) ∨ ((Itt K a).go i H ∧ ∃ Nx : Hp → Prop, (∀ H', Nx H' → ∃ m', m' < m ∧ W (i + 1) m' H') ∧ ∀ y H', (Itt K a).yld i H y H' → gName j y (wipe σ [j]) H' fun σ2 H2 => wipe σ2 [j] = wipe σ [j] ∧ tYes σ2 H2 fun b H3 =>
        if b = true then te σ2 H3 fun z H4 => ∃ acc, H4 D = some (.lst acc) ∧ acc.length < sizeLine ∧ Nx (upd H4 D (.lst (acc ++ [z]))) else Nx H3) := by
  refine lc_tup (K := K) (a := a) (xs := ys) (vs := [j]) (fun i H => Same H1 H ∧ H D = some (.lst (((ys.take i).map f).map V.bl))) ⟨same_upd hD, upd_same⟩ (fun i H _ p => same_seqT p.1 hS) ?_ ?_
  · rintro i y H ey ⟨sm, hl⟩
    refine ⟨by simp [wipe1, List.set_set], ?_⟩
    refine he y (List.mem_of_getElem? ey) H _ sm fun H2 s2 => ?_
    refine ⟨_, s2 _ _ hl, ?_, fun b o e => ?_, ?_⟩
    · rw [List.length_map, List.length_map, List.length_take]; omega
    · rw [upd_ne (ne_of_none e hD)]; exact s2 _ _ (sm _ _ e)
    · rw [upd_same, take_step ey, List.map_append, List.map_append]; rfl
  · rintro H ⟨sm, hl⟩
    rw [List.take_length] at hl
    exact hd H sm hl
end My

namespace My
open PySem PySem.Spec PyProof.Rows L2
/-- _law_right(pot) -/
def spRight : Sp := fun vs H Q _ => ∃ (p : Addr) (n : Nat), vs = [.ref p] ∧ PotAt H p n ∧ n < 2 ^ 40 ∧ ∀ H', But p H H' → PotAt H' p (n + 5000) → Q (.bl true) H'
theorem lt300 {i : Int} (h : i.natAbs < 10 ^ 200) : i.natAbs < 10 ^ 300 := Nat.lt_trans h (by decide +kernel)
theorem lt1000 {i : Int} (h : i.natAbs < 10 ^ 200) : i.natAbs < 2 ^ 1000 := Nat.lt_trans h (by decide +kernel)
theorem lt2000 {i : Int} (h : i.natAbs < 2 ^ 1000) : i.natAbs < 2 ^ 2000 := Nat.lt_trans h (by decide +kernel)
theorem ne_self {α : Type} [DecidableEq α] (x : α) : ¬ ((!decide (x = x)) = true) := by rw [decide_eq_true rfl]; decide
theorem Odd.split {p : Addr} {H : Hp} {v : V} (o : Odd p H v) : (∃ a xs, v = .ref a ∧ H a = some (.tup xs) ∧ ∀ x ∈ xs, Odd p H x) ∨ NoTup H v := by
  cases o with
  | non => exact .inr .non
  | bl b => exact .inr (.bl b)
  | int i h => exact .inr (.int i)
  | str s h => exact .inr (.str s)
  | tup e h => exact .inl ⟨_, _, rfl, e, h⟩
  | lst n e => exact .inr (.lst e)
  | dct e => exact .inr (.dct e)
def pairInts : List V → Bool
  | [x, y] => isIntV x && isIntV y
  | _ => false
theorem frac_no {xs : List V} (h : pairInts xs = false) : isFracL xs = false := by
  match xs, h with
  | [], _ => rfl
  | [x], _ => cases x <;> rfl
  | [x, y], h =>
    have h : (isIntV x && isIntV y) = false := h
    cases x <;> cases y <;> first | rfl | (exact absurd h (by simp [isIntV]))
  | x :: y :: z :: r, _ => cases x <;> first | rfl | (cases y <;> rfl)
theorem pair_of {xs : List V} (h : pairInts xs = true) : ∃ x y : Int, xs = [.int x, .int y] := by
  match xs, h with
  | [x, y], h =>
    have h : (isIntV x && isIntV y) = true := h
    rw [Bool.and_eq_true] at h
    obtain ⟨i, rfl⟩ := isInt_of h.1
    obtain ⟨j, rfl⟩ := isInt_of h.2
    exact ⟨i, j, rfl⟩
theorem bool_show (b : Bool) : (PyData.bool b).depth ≤ 60 ∧ (PyData.bool b).shown.length ≤ sizeLine ∧ ∀ i, PyData.bool b = .int i → i.natAbs.log2 < 1920 :=
  ⟨by cases b <;> decide, by cases b <;> (rw [sizeLine_eq]; decide), fun i z => by cases z⟩
def lastWords : List Str := ["", "-", "/", "1/1", "0/2", "+1", "1_0", "1.0", "a/b", "4/2", "2/4", "-1/2", "0/1", "-0"]
section
variable {P : Program} {w : World} {K : PySem.W.Frag} {mg : Str → Option Value} {base : Heap} {A : Nat → Addr} {D : Nat → FuncData}
theorem ok_right (T : Txt K mg A D) : FnG P w K mg base CX0 4 (A 19) (D 19) ["pot"] spRight := by
  have G_is_name := ok_name (P := P) (w := w) (base := base) T
  have G_is_state := ok_state (P := P) (w := w) (base := base) T
  have G_is_fraction := ok_frac (P := P) (w := w) (base := base) T
  have G_read_fraction := ok_rf (P := P) (w := w) (base := base) T
  have G_fraction_text := ok_ft (P := P) (w := w) (base := base) T
  have G__law_take := ok_take (P := P) (w := w) (base := base) T
  have G__law_of := ok_of (P := P) (w := w) (base := base) T
  have G__law_odd := ok_odd (P := P) (w := w) (base := base) T
  have G__law_integer := ok_integer (P := P) (w := w) (base := base) T
  have G__law_reduced := ok_red (P := P) (w := w) (base := base) T
  have G__law_is_integer := ok_lint (P := P) (w := w) (base := base) T
  have G__law_read := ok_lr (P := P) (w := w) (base := base) T
  have G__law_is_name := ok_lname (P := P) (w := w) (base := base) T
  have G__law_word := ok_word (P := P) (w := w) (base := base) T
  refine def_ok0 T.F__law_right sc__law_right (fun vs H Q E h => ?_) (fun cdv Ar outer s H vs Q E hr hG h => ?_)
  · obtain ⟨p, n, rfl, _⟩ := h; rfl
  · obtain ⟨p, n, rfl, hp, hn, q⟩ := h
    refine ⟨_, (pss_cons (ps_par (i := 1) (j := 2) (by rfl) sc__law_right.nd rfl rfl (by decide) rfl rfl (pa_cons (pe_cg G__law_integer (hr.mono (by decide)) hG (by rfl) T.g__law_integer T.F__law_integer.kp T.b__law_integer pass0 (pa_cons (pv 0) pa_nil)) (pa_cons (pe_cg G__law_integer (hr.mono (by decide)) hG (by rfl) T.g__law_integer T.F__law_integer.kp T.b__law_integer pass0 (pa_cons (pv 0) pa_nil)) pa_nil)) (by rfl))
      (pss_cons (ps_set (i := 3) sc__law_right.nd rfl (Or.inl rfl) (pe_cut (pe_ifExp (pt_cmpR op_ne (pv 2) pe_int (nomark _)) (pe_cg G__law_reduced (hr.mono (by decide)) hG (by rfl) T.g__law_reduced T.F__law_reduced.kp T.b__law_reduced pass0 (pa_cons (pv 1) (pa_cons (pv 2) pa_nil))) (pe_tup (pa_cons (pv 1) (pa_cons pe_int pa_nil))))))
      (pss_cons (ps_set (i := 4) sc__law_right.nd rfl (Or.inl rfl) (pe_cut (pe_ifExp (pt_cmpR op_eq (pe_ix ix_tup (pv 3) pe_int (fun _ _ => rfl)) pe_int (nomark _)) (pe_callTy call_str_int (by rfl) T.n_str (by decide +kernel) (pa_cons (pe_ix ix_tup (pv 3) pe_int (fun _ _ => rfl)) pa_nil)) (pe_op op_add_str (pe_op op_add_str (pe_callTy call_str_int (by rfl) T.n_str (by decide +kernel) (pa_cons (pe_ix ix_tup (pv 3) pe_int (fun _ _ => rfl)) pa_nil)) pe_str) (pe_callTy call_str_int (by rfl) T.n_str (by decide +kernel) (pa_cons (pe_ix ix_tup (pv 3) pe_int (fun _ _ => rfl)) pa_nil))))))
      (pss_cons (ps_if (pt_cut (PW.pt (pw_or (pt_cmpR op_ne (pe_cgk G_fraction_text (hr.mono (by decide)) hG (by rfl) T.g_fraction_text T.F_fraction_text.kp T.kb_fraction_text pass0 (pk_cons (pv 3) pk_nil)) (pv 4) (nomark _)) (pw_or (pt_cmpR op_ne (pe_callB (id := "repr") (call_repK (K := K) hG hr.units) (by rfl) T.n_repr (by decide +kernel) (pa_cons (pe_cgk G_read_fraction (hr.mono (by decide)) hG (by rfl) T.g_read_fraction T.F_read_fraction.kp T.kb_read_fraction pass0 (pk_cons (pv 4) pk_nil)) pa_nil)) (pe_callB (id := "repr") (call_repK (K := K) hG hr.units) (by rfl) T.n_repr (by decide +kernel) (pa_cons (pv 3) pa_nil)) (nomark _)) (pw_or1 (pt_cmpR op_notBl (pe_cg G_is_fraction (hr.mono (by decide)) hG (by rfl) T.g_is_fraction T.F_is_fraction.kp T.b_is_fraction pass0 (pa_cons (pv 3) pa_nil)) pe_bl (nomark _))))))) (pss_one (ps_ret pe_bl)) pss_nil)
      (pss_cons (ps_set (i := 5) sc__law_right.nd rfl (Or.inl rfl) (pe_lst (pa_cons (pe_op op_add_str (pe_op op_add_str (pe_callTy call_str_int (by rfl) T.n_str (by decide +kernel) (pa_cons (pv 1) pa_nil)) pe_str) (pe_callTy call_str_int (by rfl) T.n_str (by decide +kernel) (pa_cons (pv 2) pa_nil))) (pa_cons (pe_callTy call_str_int (by rfl) T.n_str (by decide +kernel) (pa_cons (pv 2) pa_nil)) (pa_cons (pe_op op_add_str pe_str (pe_callTy call_str_int (by rfl) T.n_str (by decide +kernel) (pa_cons (pe_callB call_abs (by rfl) T.n_abs (by decide +kernel) (pa_cons (pv 1) pa_nil)) pa_nil))) (pa_cons (pe_op op_add_str pe_str (pv 4)) (pa_cons (pe_op op_add_str (pv 4) pe_str) (pa_cons (pe_op op_add_str pe_str (pv 4)) (pa_cons (pe_op op_add_str (pv 4) pe_str) pa_nil)))))))))
      (pss_cons (ps_for PassesOwn.never rfl (pi_list (pe_op op_cat (pv 5) (pe_lst (pa_cons pe_str (pa_cons pe_str (pa_cons pe_str (pa_cons pe_str (pa_cons pe_str (pa_cons pe_str (pa_cons pe_str (pa_cons pe_str (pa_cons pe_str (pa_cons pe_str (pa_cons pe_str (pa_cons pe_str (pa_cons pe_str (pa_cons pe_str pa_nil))))))))))))))))) (pg_name (i := 6) sc__law_right.nd rfl (Or.inl rfl)) (pss_one (ps_if (pt_cmpR op_ne (pe_callB (id := "repr") (call_repK (K := K) hG hr.units) (by rfl) T.n_repr (by decide +kernel) (pa_cons (pe_cg G_read_fraction (hr.mono (by decide)) hG (by rfl) T.g_read_fraction T.F_read_fraction.kp T.b_read_fraction pass0 (pa_cons (pv 6) pa_nil)) pa_nil)) (pe_callB (id := "repr") (call_repK (K := K) hG hr.units) (by rfl) T.n_repr (by decide +kernel) (pa_cons (pe_cg G__law_read (hr.mono (by decide)) hG (by rfl) T.g__law_read T.F__law_read.kp T.b__law_read pass0 (pa_cons (pv 6) pa_nil)) pa_nil)) (nomark _)) (pss_one (ps_ret pe_bl)) pss_nil)))
      (pss_cons (ps_for PassesOwn.never rfl (pi_list (pe_lst (pa_cons (pe_tup (pa_cons (pv 1) (pa_cons (pv 2) pa_nil))) (pa_cons (pe_tup (pa_cons (pv 1) (pa_cons pe_int pa_nil))) (pa_cons (pe_tup (pa_cons (pe_ix ix_tup (pv 3) pe_int (fun _ _ => rfl)) (pa_cons (pe_un un_neg (pe_ix ix_tup (pv 3) pe_int (fun _ _ => rfl))) pa_nil))) (pa_cons (pe_lst (pa_cons (pv 1) (pa_cons pe_int pa_nil))) (pa_cons (pe_tup (pa_cons (pv 1) pa_nil)) (pa_cons (pe_tup (pa_cons pe_bl (pa_cons pe_int pa_nil))) (pa_cons (pe_tup (pa_cons pe_int (pa_cons pe_int pa_nil))) (pa_cons (pe_tup (pa_cons pe_int (pa_cons pe_int pa_nil))) (pa_cons (pe_cg G__law_odd (hr.mono (by decide)) hG (by rfl) T.g__law_odd T.F__law_odd.kp T.b__law_odd pass0 (pa_cons (pv 0) pa_nil)) pa_nil))))))))))) (pg_name (i := 7) sc__law_right.nd rfl (Or.inl rfl)) (pss_cons (ps_set (i := 8) sc__law_right.nd rfl (Or.inl rfl) (pe_cut (pe_and (pe_callB call_isi (by rfl) T.n_isinstance (by decide +kernel) (pa_cons (pv 7) (pa_cons (pe_bltn (v := .ty "tuple") (by rfl) T.n_tuple (by decide +kernel) rfl) pa_nil))) (pe_and (pe_cmpR op_eq (pe_callB call_len_seq (by rfl) T.n_len PySem.boot_len (pa_cons (pv 7) pa_nil)) pe_int (nomark _)) (pe_one (pe_callB (cr_all rfl) (by rfl) T.n_all (by decide +kernel) (pa_cons (pe_lc (own := [("part", 11)]) (g := gName 11) (tt := tYes) (by rfl) sc__law_right.nd (pi_tup (pv 7)) (blkOk_by (own := [("part", 11)]) (N := ["pot", "top", "low", "one", "text", "some", "word", "value", "due", "words", "whole_one", "part", "lap"]) (sc := defScope s__law_right) (by decide +kernel)) (fun _ _ _ _ _ => pg_name (i := 11) sc__law_right.nd rfl (Or.inl rfl)) (fun _ _ _ _ _ => pts_nil) (fun _ _ _ _ _ => (pe_cg G__law_is_integer (hr.mono (by decide)) hG (by rfl) T.g__law_is_integer T.F__law_is_integer.kp T.b__law_is_integer pass0 (pa_cons (pv 11) pa_nil)))) pa_nil)))))))
      (pss_cons (ps_set (i := 8) sc__law_right.nd rfl (Or.inl rfl) (pe_cut (pe_and (pv 8) (pe_and (pe_cmpR op_ge (pe_ix ix_tup (pv 7) pe_int (fun _ _ => rfl)) pe_int (nomark _)) (pe_one (pe_cmpR (op_eqD hr.units) (pe_cg G__law_reduced (hr.mono (by decide)) hG (by rfl) T.g__law_reduced T.F__law_reduced.kp T.b__law_reduced pass0 (pa_cons (pe_ix ix_tup (pv 7) pe_int (fun _ _ => rfl)) (pa_cons (pe_ix ix_tup (pv 7) pe_int (fun _ _ => rfl)) pa_nil))) (pv 7) (nomark _)))))))
      (pss_one (ps_if (pt_cmpR op_ne (pe_callB (id := "repr") (call_repK (K := K) hG hr.units) (by rfl) T.n_repr (by decide +kernel) (pa_cons (pe_cgk G_is_fraction (hr.mono (by decide)) hG (by rfl) T.g_is_fraction T.F_is_fraction.kp T.kb_is_fraction pass0 (pk_cons (pv 7) pk_nil)) pa_nil)) (pe_callB (id := "repr") (call_repK (K := K) hG hr.units) (by rfl) T.n_repr (by decide +kernel) (pa_cons (pv 8) pa_nil)) (nomark _)) (pss_one (ps_ret pe_bl)) pss_nil)))))
      (pss_cons (ps_setLc (i := 9) (own := [("lap", 12)]) (g := gName 12) (tt := tYes) (by rfl) sc__law_right.nd rfl rfl (sw_true rfl rfl rfl (by decide +kernel)) (pi_range1 rfl T.n_range (pa_cons (pe_op op_add pe_int (pe_cg G__law_take (hr.mono (by decide)) hG (by rfl) T.g__law_take T.F__law_take.kp T.b__law_take pass0 (pa_cons (pv 0) (pa_cons pe_int pa_nil)))) pa_nil)) (blkOk_by (own := [("lap", 12)]) (N := ["pot", "top", "low", "one", "text", "some", "word", "value", "due", "words", "whole_one", "part", "lap"]) (sc := defScope s__law_right) (by decide +kernel)) (fun _ _ _ _ _ => pg_name (i := 12) sc__law_right.nd rfl (Or.inl rfl)) (fun _ _ _ _ _ => pts_nil) (fun _ _ _ _ _ => (pe_cg G__law_word (hr.mono (by decide)) hG (by rfl) T.g__law_word T.F__law_word.kp T.b__law_word pass0 (pa_cons (pv 0) pa_nil))))
      (pss_cons (ps_set (i := 10) sc__law_right.nd rfl (Or.inl rfl) (pe_join (pe_cg G__law_of (hr.mono (by decide)) hG (by rfl) T.g__law_of T.F__law_of.kp T.b__law_of pass0 (pa_cons (pv 0) (pa_cons (pe_lst (pa_cons pe_str (pa_cons pe_str (pa_cons pe_str (pa_cons pe_str (pa_cons pe_str pa_nil)))))) pa_nil))) (pv 9)))
      (pss_cons (ps_if (pt_cmpR op_ne (pe_callB (id := "repr") (call_repK (K := K) hG hr.units) (by rfl) T.n_repr (by decide +kernel) (pa_cons (pe_cgk G_is_state (hr.mono (by decide)) hG (by rfl) T.g_is_state T.F_is_state.kp T.kb_is_state pass0 (pk_cons (pv 10) pk_nil)) pa_nil)) (pe_callB (id := "repr") (call_repK (K := K) hG hr.units) (by rfl) T.n_repr (by decide +kernel) (pa_cons (pe_callB (cr_all rfl) (by rfl) T.n_all (by decide +kernel) (pa_cons (pe_lc (own := [("part", 11)]) (g := gName 11) (tt := tYes) (by rfl) sc__law_right.nd (pi_list (pe_split (pv 10) pe_str)) (blkOk_by (own := [("part", 11)]) (N := ["pot", "top", "low", "one", "text", "some", "word", "value", "due", "words", "whole_one", "part", "lap"]) (sc := defScope s__law_right) (by decide +kernel)) (fun _ _ _ _ _ => pg_name (i := 11) sc__law_right.nd rfl (Or.inl rfl)) (fun _ _ _ _ _ => pts_nil) (fun _ _ _ _ _ => (pe_cg G__law_is_name (hr.mono (by decide)) hG (by rfl) T.g__law_is_name T.F__law_is_name.kp T.b__law_is_name pass0 (pa_cons (pv 11) pa_nil)))) pa_nil)) pa_nil)) (nomark _)) (pss_one (ps_ret pe_bl)) pss_nil)
      (pss_cons (ps_set (i := 5) sc__law_right.nd rfl (Or.inl rfl) (pe_op op_cat (pv 9) (pe_lst (pa_cons (pv 10) (pa_cons (pe_cg G__law_odd (hr.mono (by decide)) hG (by rfl) T.g__law_odd T.F__law_odd.kp T.b__law_odd pass0 (pa_cons (pv 0) pa_nil)) pa_nil)))))
      (pss_one (ps_ret (pe_callB (cr_all rfl) (by rfl) T.n_all (by decide +kernel) (pa_cons (pe_lc (own := [("value", 7)]) (g := gName 7) (tt := tYes) (by rfl) sc__law_right.nd (pi_list (pv 5)) (blkOk_by (own := [("value", 7)]) (N := ["pot", "top", "low", "one", "text", "some", "word", "value", "due", "words", "whole_one", "part", "lap"]) (sc := defScope s__law_right) (by decide +kernel)) (fun _ _ _ _ _ => pg_name (i := 7) sc__law_right.nd rfl (Or.inl rfl)) (fun _ _ _ _ _ => pts_nil) (fun _ _ _ _ _ => (pe_cmpR op_eq (pe_callB (id := "repr") (call_repK (K := K) hG hr.units) (by rfl) T.n_repr (by decide +kernel) (pa_cons (pe_cgk G_is_name (hr.mono (by decide)) hG (by rfl) T.g_is_name T.F_is_name.kp T.kb_is_name pass0 (pk_cons (pv 7) pk_nil)) pa_nil)) (pe_callB (id := "repr") (call_repK (K := K) hG hr.units) (by rfl) T.n_repr (by decide +kernel) (pa_cons (pe_cg G__law_is_name (hr.mono (by decide)) hG (by rfl) T.g__law_is_name T.F__law_is_name.kp T.b__law_is_name pass0 (pa_cons (pv 7) pa_nil)) pa_nil)) (nomark _)))) pa_nil))))))))))))))), ?_⟩
    have at0 : ∀ x y : V, atI [x, y] 0 = some x := fun _ _ => atI_nat (j := 0) rfl
    have at1 : ∀ x y : V, atI [x, y] 1 = some y := fun _ _ => atI_nat (j := 1) rfl
    -- top, low
    refine ⟨_, rfl, p, n, rfl, hp, by omega, fun i1 H1 k1 b1 hp1 => ⟨_, rfl, p, n + 300, rfl, hp1, by omega, fun i2 H2 k2 b2 hp2 => ⟨_, _, rfl, ?_⟩⟩⟩
    have B2 := b1.trans b2
    -- one
    refine ⟨fun v H' => ∃ t a b, v = .ref t ∧ Same H2 H' ∧ H' t = some (.tup [.int a, .int b]) ∧ 1 ≤ b ∧ ((Int.gcd a b : Nat) : Int) = 1 ∧ a.natAbs < 10 ^ 200 ∧ b.natAbs < 10 ^ 200, ?_, ?_⟩
    · refine ⟨_, rfl, rfl, _, rfl, ite2 (fun e => ?_) (fun e => ?_)⟩
      · have hl : i2 ≠ 0 := by
          intro z; subst z
          exact ne_self _ e
        refine ⟨_, rfl, _, rfl, i1, i2, rfl, hl, lt2000 (lt1000 k1), lt2000 (lt1000 k2), fun t H3 s3 ht et => ?_⟩
        obtain ⟨r1, r2, r3, r4⟩ := redu_ok (a := i1) hl
        exact ⟨t, _, _, rfl, s3, et, r1, r2, Nat.lt_of_le_of_lt r3 k1, Nat.lt_of_le_of_lt r4 k2⟩
      · have hl : i2 = 0 := by
          rcases Classical.em (i2 = 0) with z | z
          · exact z
          · exact absurd (by rw [decide_eq_false (fun y => z (V.int.inj y))]; rfl) e
        subst hl
        refine ⟨_, rfl, (by show 2 ≤ sizeLine; decide), fun t ht => ⟨t, i1, 1, rfl, same_upd ht, upd_same, by decide, by rw [Int.gcd_one]; rfl, k1, by decide +kernel⟩⟩
    rintro v H3 ⟨t, a, b, rfl, S3, ht, hb, hg, ka, kb⟩
    have hp3 := hp2.same S3
    have B3 := B2.trans (But.of S3)
    -- text
    refine ⟨fun v H' => v = .str (fracText a b) ∧ H' = H3, ?_, ?_⟩
    · refine ⟨_, rfl, t, _, 1, .int b, rfl, rfl, SqT.of ht, at1 _ _, rfl, _, rfl, ite2 (fun e => ?_) (fun e => ?_)⟩
      · have e := V.int.inj (of_decide_eq_true e)
        refine ⟨_, rfl, t, _, 0, .int a, rfl, rfl, SqT.of ht, at0 _ _, a, rfl, log_small (lt300 ka), ?_, rfl⟩
        unfold fracText; rw [if_pos e]
      · have e : b ≠ 1 := fun z => e (decide_eq_true (by rw [z]))
        refine ⟨_, rfl, t, _, 0, .int a, rfl, rfl, SqT.of ht, at0 _ _, a, rfl, log_small (lt300 ka), _, _, rfl, rfl, ?_, _, rfl, t, _, 1, .int b, rfl, rfl, SqT.of ht, at1 _ _, b, rfl, log_small (lt300 kb), _, _, rfl, rfl, ?_, ?_, rfl⟩
        · have := str_small (lt300 ka)
          have e1 : ("/" : Str).length = 1 := rfl
          rw [sizeLine_eq]; omega
        · have := str_small (lt300 ka)
          have := str_small (lt300 kb)
          have e1 : ("/" : Str).length = 1 := rfl
          rw [Str.length_append, sizeLine_eq]; omega
        · unfold fracText; rw [if_neg e]
    rintro v H3' ⟨rfl, rfl⟩
    have hF : isFracL [.int a, .int b] = true := by
      show (decide (1 ≤ b) && decide (((Int.gcd a b : Nat) : Int) = 1)) = true
      rw [decide_eq_true hb, decide_eq_true hg]; rfl
    have hTl : (fracText a b).length ≤ 4000 := by
      have h1 := str_small (lt300 ka)
      have h2 := str_small (lt300 kb)
      have e1 : ("/" : Str).length = 1 := rfl
      unfold fracText
      split
      · omega
      · rw [Str.length_append, Str.length_append]; omega
    -- the first test
    refine ⟨fun c H' => c = false ∧ Same H3' H', ?_, ?_⟩
    · refine ⟨_, rfl, t, a, b, rfl, ht, hF, lt300 ka, lt300 kb, _, rfl, rfl, _, rfl, ite2 (fun e => absurd e (ne_self _)) (fun _ => ?_)⟩
      refine ⟨_, rfl, fracText a b, rfl, by omega, fun v H4 s4 d4 => ?_⟩
      rw [readFrac_text hb hg (lt300 ka) (lt300 kb)] at d4
      obtain ⟨h1, h2, h3, h4, h5⟩ := frac_show (o := some (a, b)) (fun x y e => by cases e; exact ⟨lt1000 ka, lt1000 kb⟩)
      refine ⟨v, _, rfl, d4, h1, h2, h3, h4, h5, ?_⟩
      refine ⟨_, rfl, _, _, rfl, .tup (SqT.of (s4 _ _ ht)) (.cons (.int a) (.cons (.int b) .nil)), h1, h2, h3, h4, h5, ?_⟩
      refine ⟨rfl, _, rfl, ite2 (fun e => absurd e (ne_self _)) (fun _ => ?_)⟩
      refine ⟨_, rfl, _, rfl, .inl ⟨t, _, rfl, s4 _ _ ht, ?_, ?_⟩⟩
      · intro x hx
        simp only [List.mem_cons, List.not_mem_nil, or_false] at hx
        rcases hx with rfl | rfl <;> exact .int _
      · rw [hF]
        exact ⟨true, true, rfl, rfl, _, rfl, rfl, s4⟩
    rintro c H4 ⟨rfl, S4⟩
    refine ite2 (fun e => absurd e (by decide)) (fun _ => ?_)
    obtain ⟨tx, htx⟩ : ∃ tx, tx = fracText a b := ⟨_, rfl⟩
    rw [← htx] at hTl ⊢
    have z1 := str_small (lt300 k1)
    have z2 := str_small (lt300 k2)
    have ka1 : (if i1 < 0 then -i1 else i1).natAbs < 10 ^ 200 := by split <;> omega
    have z3 := str_small (lt300 ka1)
    -- some
    have c1 : ("/" : Str).length = 1 := rfl
    have c2 : ("0" : Str).length = 1 := rfl
    have c3 : ("-" : Str).length = 1 := rfl
    have c4 : (" " : Str).length = 1 := rfl
    refine ⟨_, rfl, i1, rfl, log_small (lt300 k1), _, _, rfl, rfl, by rw [sizeLine_eq]; omega, _, rfl, i2, rfl, log_small (lt300 k2), _, _, rfl, rfl, by rw [Str.length_append, sizeLine_eq]; omega, ?_⟩
    refine ⟨_, rfl, i2, rfl, log_small (lt300 k2), ?_⟩
    refine ⟨_, rfl, i1, rfl, _, rfl, log_small (lt300 ka1), _, _, rfl, rfl, by rw [sizeLine_eq]; omega, ?_⟩
    refine ⟨_, rfl, _, _, rfl, rfl, by rw [sizeLine_eq]; omega, ?_⟩
    refine ⟨_, rfl, _, _, rfl, rfl, by rw [sizeLine_eq]; omega, ?_⟩
    refine ⟨_, rfl, _, _, rfl, rfl, by rw [sizeLine_eq]; omega, ?_⟩
    refine ⟨_, rfl, _, _, rfl, rfl, by rw [sizeLine_eq]; omega, ?_⟩
    refine ⟨(by show 7 ≤ sizeLine; decide), fun l h5 => ?_⟩
    obtain ⟨LS, hLS⟩ : ∃ LS : List Str, LS = [(toString i1 : Str) ++ "/" ++ (toString i2 : Str), (toString i2 : Str), "0" ++ (toString (if i1 < 0 then -i1 else i1) : Str), "-" ++ tx, tx ++ "/", "/" ++ tx, tx ++ " "] := ⟨_, rfl⟩
    have hLl : ∀ w ∈ LS, w.length < 2 ^ 19 := by
      intro w hw
      rw [hLS] at hw
      simp only [List.mem_cons, List.not_mem_nil, or_false] at hw
      rcases hw with rfl | rfl | rfl | rfl | rfl | rfl | rfl
      · rw [Str.length_append, Str.length_append]; omega
      · omega
      · rw [Str.length_append]; omega
      · rw [Str.length_append]; omega
      · rw [Str.length_append]; omega
      · rw [Str.length_append]; omega
      · rw [Str.length_append]; omega
    have S5 : Same H4 (upd H4 l (.lst (LS.map V.str))) := same_upd h5
    have e5 : (upd H4 l (.lst (LS.map V.str))) l = some (.lst (LS.map V.str)) := upd_same
    rw [show ([V.str ((toString i1 : Str) ++ "/" ++ (toString i2 : Str)), V.str (toString i2 : Str), V.str ("0" ++ (toString (if i1 < 0 then -i1 else i1) : Str)), V.str ("-" ++ tx), V.str (tx ++ "/"), V.str ("/" ++ tx), V.str (tx ++ " ")] : List V) = LS.map V.str by rw [hLS]; rfl]
    generalize (upd H4 l (.lst (LS.map V.str))) = H5 at S5 e5 ⊢
    refine ⟨_, rfl, (by show 14 ≤ sizeLine; decide), fun l2 h6 => ?_⟩
    rw [show ([V.str "", V.str "-", V.str "/", V.str "1/1", V.str "0/2", V.str "+1", V.str "1_0", V.str "1.0", V.str "a/b", V.str "4/2", V.str "2/4", V.str "-1/2", V.str "0/1", V.str "-0"] : List V) = lastWords.map V.str from rfl]
    have S6 : Same H5 (upd H5 l2 (.lst (lastWords.map V.str))) := same_upd h6
    have e6 : (upd H5 l2 (.lst (lastWords.map V.str))) l2 = some (.lst (lastWords.map V.str)) := upd_same
    have hlen : LS.length = 7 := by rw [hLS]; rfl
    refine ⟨l, l2, LS.map V.str, lastWords.map V.str, rfl, rfl, S6 _ _ e5, e6, ?_, fun l3 h7 => ?_⟩
    · rw [List.length_map, hlen]; show 7 + 14 ≤ sizeLine; decide
    have S7 := same_upd (o := .lst (LS.map V.str ++ lastWords.map V.str)) h7
    have e7 : (upd (upd H5 l2 (.lst (lastWords.map V.str))) l3 (.lst (LS.map V.str ++ lastWords.map V.str))) l3 = some (.lst (LS.map V.str ++ lastWords.map V.str)) := upd_same
    have S57 := (S5.trans S6).trans S7
    generalize (upd (upd H5 l2 (.lst (lastWords.map V.str))) l3 (.lst (LS.map V.str ++ lastWords.map V.str))) = H7 at S57 e7 ⊢
    clear S6 S7 h7 h6 e6 h5
    refine ⟨l3, rfl, ⟨_, SqL.of e7⟩, for_list (K := K) (a := l3) (xs := LS.map V.str ++ lastWords.map V.str) (fun i σ H' => ∃ u6, σ = [some (.ref p), some (.int i1), some (.int i2), some (.ref t), some (.str tx), some (.ref l), u6, none, none, none, none, none, none] ∧ Same H7 H')
      ⟨none, rfl, Same.refl _⟩ (fun i σ H' _ ⟨_, _, s⟩ => s.seq (SqL.of e7)) ?_ ?_⟩
    · rintro i x σ H8 hx ⟨u6, rfl, s8⟩
      obtain ⟨wd, rfl, hwd⟩ : ∃ wd, x = .str wd ∧ wd.length < 2 ^ 19 := by
        rcases List.mem_append.mp (List.mem_of_getElem? hx) with h | h
        · obtain ⟨y, hy, rfl⟩ := List.mem_map.mp h
          exact ⟨y, rfl, hLl y hy⟩
        · obtain ⟨y, hy, rfl⟩ := List.mem_map.mp h
          have : ∀ y ∈ lastWords, y.length < 2 ^ 19 := by decide
          exact ⟨y, rfl, this y hy⟩
      obtain ⟨f1, f2, f3, f4, f5⟩ := frac_show (readFrac_bd wd)
      refine ⟨_, rfl, wd, rfl, hwd, fun v H9 s9 d9 => ⟨v, _, rfl, d9, f1, f2, f3, f4, f5, _, rfl, wd, rfl, hwd, fun v2 H10 s10 d10 => ⟨v2, _, rfl, d10, f1, f2, f3, f4, f5, rfl, _, rfl, ite2 (fun e => absurd e (ne_self _)) (fun _ => ?_)⟩⟩⟩
      exact ⟨_, rfl, (s8.trans s9).trans s10⟩
    · rintro σ H8 ⟨u6, rfl, s8⟩
      have B8 : But p H H8 := B3.trans (But.of ((S4.trans S57).trans s8))
      have hp8 := hp3.same ((S4.trans S57).trans s8)
      have ht8 := s8 _ _ (S57 _ _ (S4 _ _ ht))
      have V0 : Same H8 H8 := Same.refl _
      refine ⟨_, rfl, _, rfl, (by show 2 ≤ sizeLine; decide), fun a1 m1 => ?_⟩
      have R1 : Same H8 (upd H8 a1 (.tup [.int i1, .int i2])) := same_upd m1
      have g1 : (upd H8 a1 (.tup [.int i1, .int i2])) a1 = some (.tup [.int i1, .int i2]) := upd_same
      have np1 : a1 ≠ p := (hp8.same V0).ne m1
      generalize (upd H8 a1 (.tup [.int i1, .int i2])) = J1 at R1 g1 ⊢
      have V1 := Same.trans V0 R1
      refine ⟨_, rfl, (by show 2 ≤ sizeLine; decide), fun a2 m2 => ?_⟩
      have R2 : Same J1 (upd J1 a2 (.tup [.int i1, .int 0])) := same_upd m2
      have g2 : (upd J1 a2 (.tup [.int i1, .int 0])) a2 = some (.tup [.int i1, .int 0]) := upd_same
      have np2 : a2 ≠ p := (hp8.same V1).ne m2
      generalize (upd J1 a2 (.tup [.int i1, .int 0])) = J2 at R2 g2 ⊢
      have V2 := Same.trans V1 R2
      refine ⟨_, rfl, t, _, 0, .int a, rfl, rfl, SqT.of (V2 _ _ ht8), at0 _ _, _, rfl, t, _, 1, .int b, rfl, rfl, SqT.of (V2 _ _ ht8), at1 _ _, b, rfl, (by show 2 ≤ sizeLine; decide), fun a3 m3 => ?_⟩
      have R3 : Same J2 (upd J2 a3 (.tup [.int a, .int (-b)])) := same_upd m3
      have g3 : (upd J2 a3 (.tup [.int a, .int (-b)])) a3 = some (.tup [.int a, .int (-b)]) := upd_same
      have np3 : a3 ≠ p := (hp8.same V2).ne m3
      generalize (upd J2 a3 (.tup [.int a, .int (-b)])) = J3 at R3 g3 ⊢
      have V3 := Same.trans V2 R3
      refine ⟨_, rfl, (by show 2 ≤ sizeLine; decide), fun a4 m4 => ?_⟩
      have R4 : Same J3 (upd J3 a4 (.lst [.int i1, .int 1])) := same_upd m4
      have g4 : (upd J3 a4 (.lst [.int i1, .int 1])) a4 = some (.lst [.int i1, .int 1]) := upd_same
      have np4 : a4 ≠ p := (hp8.same V3).ne m4
      generalize (upd J3 a4 (.lst [.int i1, .int 1])) = J4 at R4 g4 ⊢
      have V4 := Same.trans V3 R4
      refine ⟨_, rfl, (by show 1 ≤ sizeLine; decide), fun a5 m5 => ?_⟩
      have R5 : Same J4 (upd J4 a5 (.tup [.int i1])) := same_upd m5
      have g5 : (upd J4 a5 (.tup [.int i1])) a5 = some (.tup [.int i1]) := upd_same
      have np5 : a5 ≠ p := (hp8.same V4).ne m5
      generalize (upd J4 a5 (.tup [.int i1])) = J5 at R5 g5 ⊢
      have V5 := Same.trans V4 R5
      refine ⟨(by show 2 ≤ sizeLine; decide), fun a6 m6 => ?_⟩
      have R6 : Same J5 (upd J5 a6 (.tup [.bl true, .int 1])) := same_upd m6
      have g6 : (upd J5 a6 (.tup [.bl true, .int 1])) a6 = some (.tup [.bl true, .int 1]) := upd_same
      have np6 : a6 ≠ p := (hp8.same V5).ne m6
      generalize (upd J5 a6 (.tup [.bl true, .int 1])) = J6 at R6 g6 ⊢
      have V6 := Same.trans V5 R6
      refine ⟨(by show 2 ≤ sizeLine; decide), fun a7 m7 => ?_⟩
      have R7 : Same J6 (upd J6 a7 (.tup [.int 0, .int 1])) := same_upd m7
      have g7 : (upd J6 a7 (.tup [.int 0, .int 1])) a7 = some (.tup [.int 0, .int 1]) := upd_same
      have np7 : a7 ≠ p := (hp8.same V6).ne m7
      generalize (upd J6 a7 (.tup [.int 0, .int 1])) = J7 at R7 g7 ⊢
      have V7 := Same.trans V6 R7
      refine ⟨(by show 2 ≤ sizeLine; decide), fun a8 m8 => ?_⟩
      have R8 : Same J7 (upd J7 a8 (.tup [.int 0, .int 2])) := same_upd m8
      have g8 : (upd J7 a8 (.tup [.int 0, .int 2])) a8 = some (.tup [.int 0, .int 2]) := upd_same
      have np8 : a8 ≠ p := (hp8.same V7).ne m8
      generalize (upd J7 a8 (.tup [.int 0, .int 2])) = J8 at R8 g8 ⊢
      have V8 := Same.trans V7 R8
      have hpJ := hp8.same V8
      have BJ : But p H J8 := B8.trans (But.of V8)
      refine ⟨_, rfl, p, n + 600, rfl, hpJ, by omega, fun ov H9 oo b9 hp9 => ⟨(by show 9 ≤ sizeLine; decide), fun L hL => ?_⟩⟩
      have B9 := BJ.trans b9
      obtain ⟨ys, hys⟩ := hpJ.lst
      have o1 : ∀ (i : Int) (h : i.natAbs < 10 ^ 200), Odd p J8 (.int i) := fun i h => .int i (lt1000 h)
      have kl : (0 : Int).natAbs < 10 ^ 200 := by decide +kernel
      have k1' : (1 : Int).natAbs < 10 ^ 200 := by decide +kernel
      have two : ∀ {x y : V}, Odd p J8 x → Odd p J8 y → ∀ z ∈ [x, y], Odd p J8 z := by
        intro x y hx hy z hz
        simp only [List.mem_cons, List.not_mem_nil, or_false] at hz
        rcases hz with rfl | rfl
        · exact hx
        · exact hy
      have odds : ∀ x ∈ [V.ref a1, .ref a2, .ref a3, .ref a4, .ref a5, .ref a6, .ref a7, .ref a8], Odd p H9 x := by
        intro x hx
        refine Odd.but hys b9 ?_
        simp only [List.mem_cons, List.not_mem_nil, or_false] at hx
        rcases hx with rfl | rfl | rfl | rfl | rfl | rfl | rfl | rfl
        · exact .tup (R8 _ _ (R7 _ _ (R6 _ _ (R5 _ _ (R4 _ _ (R3 _ _ (R2 _ _ g1))))))) (two (o1 _ k1) (o1 _ k2))
        · exact .tup (R8 _ _ (R7 _ _ (R6 _ _ (R5 _ _ (R4 _ _ (R3 _ _ g2)))))) (two (o1 _ k1) (o1 _ kl))
        · exact .tup (R8 _ _ (R7 _ _ (R6 _ _ (R5 _ _ (R4 _ _ g3))))) (two (o1 _ ka) (o1 _ (by rw [Int.natAbs_neg]; exact kb)))
        · exact .lst np4 (R8 _ _ (R7 _ _ (R6 _ _ (R5 _ _ g4))))
        · exact .tup (R8 _ _ (R7 _ _ (R6 _ _ g5))) (fun z hz => by rw [List.mem_singleton.mp hz]; exact o1 _ k1)
        · exact .tup (R8 _ _ (R7 _ _ g6)) (two (.bl _) (o1 _ k1'))
        · exact .tup (R8 _ _ g7) (two (o1 _ kl) (o1 _ k1'))
        · exact .tup g8 (two (o1 _ kl) (o1 _ (by decide +kernel)))
      have oddAll : ∀ x ∈ [V.ref a1, .ref a2, .ref a3, .ref a4, .ref a5, .ref a6, .ref a7, .ref a8, ov], Odd p H9 x := by
        intro x hx
        have hx : x ∈ [V.ref a1, .ref a2, .ref a3, .ref a4, .ref a5, .ref a6, .ref a7, .ref a8] ++ [ov] := hx
        rcases List.mem_append.mp hx with hx | hx
        · exact odds x hx
        · rw [List.mem_singleton.mp hx]; exact oo
      have S10 : Same H9 _ := same_upd (o := .lst [V.ref a1, .ref a2, .ref a3, .ref a4, .ref a5, .ref a6, .ref a7, .ref a8, ov]) hL
      have hLl : (upd H9 L (.lst [V.ref a1, .ref a2, .ref a3, .ref a4, .ref a5, .ref a6, .ref a7, .ref a8, ov])) L = some (.lst [V.ref a1, .ref a2, .ref a3, .ref a4, .ref a5, .ref a6, .ref a7, .ref a8, ov]) := upd_same
      generalize (upd H9 L (.lst [V.ref a1, .ref a2, .ref a3, .ref a4, .ref a5, .ref a6, .ref a7, .ref a8, ov])) = H10 at S10 hLl ⊢
      clear odds V0 V1 V2 V3 V4 V5 V6 V7 V8 R1 R2 R3 R4 R5 R6 R7 R8 g1 g2 g3 g4 g5 g6 g7 g8 m1 m2 m3 m4 m5 m6 m7 m8 np1 np2 np3 np4 np5 np6 np7 np8
      refine ⟨L, rfl, ⟨_, SqL.of hLl⟩, for_list (K := K) (a := L) (xs := [V.ref a1, .ref a2, .ref a3, .ref a4, .ref a5, .ref a6, .ref a7, .ref a8, ov]) (fun i σ H' => ∃ u7 u8, σ = [some (.ref p), some (.int i1), some (.int i2), some (.ref t), some (.str tx), some (.ref l), u6, u7, u8, none, none, none, none] ∧ Same H10 H')
        ⟨none, none, rfl, Same.refl _⟩ (fun i σ H' _ ⟨_, _, _, s⟩ => s.seq (SqL.of hLl)) ?_ ?_⟩
      · rintro i v σ H11 hx ⟨u7, u8, rfl, s11⟩
        have ov11 : Odd p H11 v := (oddAll v (List.mem_of_getElem? hx)).same (S10.trans s11)
        rcases ov11.split with ⟨a0, xs, rfl, e0, hxs⟩ | nt
        · obtain ⟨tt, ty, et⟩ := kTup (K := K) e0
          refine ⟨fun v H' => v = .bl (pairInts xs) ∧ Same H11 H', ?_, ?_⟩
          · refine ⟨_, rfl, _, .ty "tuple", tt, _, _, rfl, .ty _, ty, et, _, rfl, ?_⟩
            refine ⟨_, rfl, a0, xs, rfl, .inr (SqT.of e0), rfl, _, rfl, ite2 (fun e => ?_) (fun e => ?_)⟩
            · have e2 := V.int.inj (of_decide_eq_true e)
              obtain ⟨x, y, rfl⟩ : ∃ x y, xs = [x, y] := by
                match xs, e2 with
                | [x, y], _ => exact ⟨x, y, rfl⟩
                | [], h => simp at h
                | [x], h => simp at h
                | x :: y :: z :: r, h => simp at h; omega
              refine ⟨_, rfl, a0, rfl, ⟨_, SqT.of e0⟩, fun D hD => lcB_tup (K := K) (a := a0) (ys := [x, y]) (j := 11) isIntV hD (SqT.of e0) (by show 2 < sizeLine; decide) (fun z hz H Q sm k => ⟨_, rfl, z, rfl, ((hxs z hz).same sm).known, k H (Same.refl _)⟩) (fun H12 s12 hL12 => ?_)⟩
              refine ⟨_, _, rfl, SqL.of hL12, ?_, s12⟩
              rw [all_map]
              show V.bl (isIntV x && (isIntV y && true)) = _
              rw [Bool.and_true]; rfl
            · refine ⟨?_, Same.refl _⟩
              have e2 : pairInts xs = false := by
                match xs, e with
                | [], _ => rfl
                | [x], _ => rfl
                | [x, y], h => exact absurd (decide_eq_true rfl) h
                | x :: y :: z :: r, _ => rfl
              rw [e2]
          rintro w1 H12 ⟨rfl, s12⟩
          have e1 := s12 _ _ e0
          refine ⟨fun v H' => v = .bl (isFracL xs) ∧ Same H12 H', ?_, ?_⟩
          · refine ⟨_, rfl, _, rfl, ite2 (fun e => ?_) (fun e => ?_)⟩
            · obtain ⟨x, y, rfl⟩ := pair_of e
              refine ⟨_, rfl, a0, _, 1, .int y, rfl, rfl, SqT.of e1, at1 _ _, y, 1, rfl, rfl, _, rfl, ite2 (fun e => ?_) (fun e => ?_)⟩
              · have hy := of_decide_eq_true e
                have bx : x.natAbs < 2 ^ 1000 := by
                  have := hxs (.int x) (by simp)
                  cases this; assumption
                have by' : y.natAbs < 2 ^ 1000 := by
                  have := hxs (.int y) (by simp)
                  cases this; assumption
                refine ⟨_, rfl, a0, _, 0, .int x, rfl, rfl, SqT.of e1, at0 _ _, _, rfl, a0, _, 1, .int y, rfl, rfl, SqT.of e1, at1 _ _, x, y, rfl, by omega, lt2000 bx, lt2000 by', fun t2 H13 s13 ht2 et2 => ?_⟩
                refine ⟨_, rfl, .tuple [.int (redu x y).1, .int (redu x y).2], .tuple [.int x, .int y], .tup (SqT.of et2) (.cons (.int _) (.cons (.int _) .nil)), .tup (SqT.of (s13 _ _ e1)) (.cons (.int _) (.cons (.int _) .nil)), rfl, rfl, ?_, s13⟩
                rw [eqv_pair]
                show V.bl (decide (redu x y = (x, y))) = V.bl (decide (1 ≤ y) && decide (((Int.gcd x y : Nat) : Int) = 1))
                rw [decide_eq_true hy, Bool.true_and]
                exact congrArg V.bl (decide_eq_decide.mpr (redu_same (by omega)))
              · refine ⟨?_, Same.refl _⟩
                show V.bl false = V.bl (decide (1 ≤ y) && decide (((Int.gcd x y : Nat) : Int) = 1))
                rw [Bool.eq_false_iff.mpr e, Bool.false_and]
            · refine ⟨?_, Same.refl _⟩
              rw [frac_no (Bool.eq_false_iff.mpr e)]
          rintro w2 H13 ⟨rfl, s13⟩
          obtain ⟨f1, f2, f3⟩ := bool_show (isFracL xs)
          have s113 := s12.trans s13
          refine ⟨_, rfl, _, rfl, .inl ⟨a0, xs, rfl, s13 _ _ e1, fun z hz => ((hxs z hz).same s113).known, _, _, rfl, .bl _, rfl, rfl, f1, f2, f3, _, rfl, _, _, rfl, .bl _, rfl, rfl, f1, f2, f3, rfl, _, rfl, ite2 (fun e => absurd e (ne_self _)) (fun _ => ?_)⟩⟩
          exact ⟨_, _, rfl, s11.trans s113⟩
        · obtain ⟨tt, ty, et⟩ := nt.kTup (K := K)
          refine ⟨fun v H' => v = .bl false ∧ H' = H11, ⟨_, rfl, _, .ty "tuple", tt, _, _, rfl, .ty _, ty, et, _, rfl, rfl, rfl⟩, ?_⟩
          rintro w1 H12 ⟨rfl, rfl⟩
          refine ⟨fun v H' => v = .bl false ∧ H' = H12, ⟨_, rfl, _, rfl, rfl, rfl⟩, ?_⟩
          rintro w2 H13 ⟨rfl, rfl⟩
          obtain ⟨f1, f2, f3⟩ := bool_show false
          refine ⟨_, rfl, _, rfl, .inr ⟨nt, _, _, rfl, .bl _, rfl, rfl, f1, f2, f3, _, rfl, _, _, rfl, .bl _, rfl, rfl, f1, f2, f3, rfl, _, rfl, ite2 (fun e => absurd e (ne_self _)) (fun _ => ?_)⟩⟩
          exact ⟨_, _, rfl, s11⟩
      · rintro σ H11 ⟨u7, u8, rfl, s11⟩
        have B11 : But p H H11 := B9.trans (But.of (S10.trans s11))
        have hp11 := hp9.same (S10.trans s11)
        have hz11 : n + 610 < 2 ^ 60 := by omega
        have hp11 : PotAt H11 p (n + 610) := hp11
        refine ⟨_, rfl, p, 4, n + 610, rfl, hp11, hz11, by decide, by decide, fun j H12 j0 j1 b12 hp12 => ⟨1, j, rfl, rfl, _, rfl, by omega, by omega, fun D hD => ?_⟩⟩
        have B12 := B11.trans b12
        have hDp : D ≠ p := hp12.ne hD
        obtain ⟨nn, hnn⟩ : ∃ nn : Nat, nn = (1 + j).toNat := ⟨_, rfl⟩
        refine lc_range (lo := 0) (n := (1 + j).toNat) (vs := [12]) (fun i H' => ∃ L : List Str, L.length = i ∧ (∀ s ∈ L, s ∈ wordsW) ∧ H' D = some (.lst (L.map V.str)) ∧ PotAt H' p (n + 611 + i) ∧ But p H12 H') ?_ ?_ ?_
        · exact ⟨[], rfl, (fun c h => absurd h List.not_mem_nil), upd_same, hp12.same (same_upd hD), But.of (same_upd hD)⟩
        · rintro i H13 hi ⟨LW, hLW, hd, hl13, hp13, b13⟩
          rw [← hnn] at hi
          refine ⟨rfl, _, rfl, p, n + 611 + i, rfl, hp13, by omega, fun sw H14 hsw b14 hp14 => ?_⟩
          refine ⟨LW.map V.str, b14 _ _ hDp hl13, by rw [List.length_map]; exact small20' (by omega), LW ++ [sw], by simp [hLW], ?_, by rw [upd_same, List.map_append]; rfl, ?_, ?_⟩
          · intro x hx
            rcases List.mem_append.mp hx with hx | hx
            · exact hd x hx
            · rw [List.mem_singleton.mp hx]; exact hsw
          · obtain ⟨o1, s1, c1, e1, e2⟩ := hp14
            exact ⟨o1, s1, c1, by rw [upd_ne hDp.symm]; exact e1, e2⟩
          · intro b o ne e
            rw [upd_ne (ne_of_none e hD)]
            exact (b13.trans b14) b o ne e
        · rintro H13 ⟨LW, hLW, hd, hl13, hp13, b13⟩
          rw [← hnn] at hLW hp13
          have B13 := B12.trans b13
          -- whole_one
          refine ⟨_, rfl, (by show 5 ≤ sizeLine; decide), fun lq hq => ?_⟩
          have s14 := same_upd (o := .lst [.str ".", .str ".", .str "..", .str " ", .str "/"]) hq
          refine ⟨p, lq, _, n + 611 + nn, rfl, hp13.same s14, by omega, hp13.ne hq, SqL.of upd_same, List.cons_ne_nil _ _, (by show 5 < 2 ^ 24; decide), fun x H15 hx b15 hp15 => ?_⟩
          obtain ⟨sep, rfl, hsep⟩ : ∃ sep : Str, x = .str sep ∧ sep.length ≤ 2 := by
            simp only [List.mem_cons, List.not_mem_nil, or_false] at hx
            rcases hx with rfl | rfl | rfl | rfl | rfl
            · exact ⟨_, rfl, by decide⟩
            · exact ⟨_, rfl, by decide⟩
            · exact ⟨_, rfl, by decide⟩
            · exact ⟨_, rfl, by decide⟩
            · exact ⟨_, rfl, by decide⟩
          have hl15 := b15 _ _ hDp (s14 _ _ hl13)
          have B15 := (B13.trans (But.of s14)).trans b15
          have hw10 : ∀ s ∈ LW, s.length ≤ 10 := fun s h => by
            have : ∀ s ∈ wordsW, s.length ≤ 10 := by decide
            exact this s (hd s h)
          have hsum : ∀ M : List Str, (∀ s ∈ M, s.length ≤ 10) → (M.map (·.length)).sum ≤ 10 * M.length := by
            intro M
            induction M with
            | nil => intro _; exact Nat.zero_le _
            | cons x r ih =>
              intro h
              rw [List.map_cons, List.sum_cons, List.length_cons]
              have h1 := h x List.mem_cons_self
              have h2 := ih (fun s hs => h s (List.mem_cons_of_mem _ hs))
              omega
          have hsm := hsum LW hw10
          have hmul : LW.length * sep.length ≤ 4 * 2 := Nat.mul_le_mul (by omega) hsep
          refine ⟨⟨sep, rfl⟩, _, rfl, sep, D, LW, rfl, rfl, .inl (SqL.of hl15), by omega, ?_⟩
          obtain ⟨wo, hwo⟩ : ∃ wo, wo = Txt.join sep LW := ⟨_, rfl⟩
          have hwl : wo.length ≤ 50 := by
            have e2 : Txt.join sep LW = Str.join sep LW := beq_iff_eq.mp (PyProof.Rows.join_closes rfl)
            have := StrLaws.join_length_le sep LW
            rw [hwo, e2]; omega
          rw [← hwo]
          have hst : isStateS wo = (Txt.split wo ".").all isNameS := by
            have := PyProof.Rows.split_le wo "."
            unfold isStateS
            rw [decide_eq_true (show wo.length ≤ 540 by omega)]
            by_cases h60 : (Txt.split wo ".").length ≤ 60
            · rw [decide_eq_true h60]; rfl
            · omega
          have hzw : wo.length < 2 ^ 19 := by omega
          obtain ⟨f1, f2, f3⟩ := bool_show (isStateS wo)
          refine ⟨_, rfl, wo, rfl, hzw, fun H16 s16 => ?_⟩
          refine ⟨_, _, rfl, .bl _, rfl, rfl, f1, f2, f3, ?_⟩
          refine ⟨_, rfl, ⟨_, rfl⟩, wo, _, rfl, rfl, rfl, by rw [sizeLine_eq]; omega, fun p2 hp2 => ?_⟩
          have s17 := same_upd (o := .lst ((Txt.split wo ".").map V.str)) hp2
          refine ⟨p2, rfl, ⟨_, SqL.of upd_same⟩, fun D2 hD2 => lcB_list (K := K) (a := p2) (ys := Txt.split wo ".") (j := 11) isNameS hD2 (SqL.of upd_same) (small20' (by have := PyProof.Rows.split_le wo "."; omega)) (fun y hy H Q sm k => ?_) (fun H18 s18 hL18 => ?_)⟩
          · refine ⟨_, rfl, _, rfl, .str y, fun s e => ?_, k⟩
            cases e
            exact Nat.lt_of_le_of_lt (PyProof.Rows.part_short hy) (by omega)
          refine ⟨_, _, rfl, SqL.of hL18, ?_⟩
          rw [all_map, ← hst]
          refine ⟨_, _, rfl, .bl _, rfl, rfl, f1, f2, f3, rfl, _, rfl, ite2 (fun e => absurd e (ne_self _)) (fun _ => ?_)⟩
          have s1518 := (s16.trans s17).trans s18
          have hp18 := hp15.same s1518
          have B18 := B15.trans (But.of s1518)
          -- some
          refine ⟨_, rfl, _, rfl, _, rfl, p, n + 611 + nn + 1, rfl, hp18, by omega, fun ov2 H19 oo2 b19 hp19 => ⟨(by show 2 ≤ sizeLine; decide), fun lf hlf => ?_⟩⟩
          have B19 := B18.trans b19
          have hl19 := b19 _ _ hDp (s1518 _ _ hl15)
          have s20 := same_upd (o := .lst [.str wo, ov2]) hlf
          refine ⟨D, lf, _, _, rfl, rfl, s20 _ _ hl19, upd_same, ?_, fun lz hlz => ?_⟩
          · rw [List.length_map]
            show LW.length + 2 ≤ sizeLine
            rw [sizeLine_eq]; omega
          have s21 := same_upd (o := .lst (LW.map V.str ++ [.str wo, ov2])) hlz
          have e21 : (upd (upd H19 lf (.lst [.str wo, ov2])) lz (.lst (LW.map V.str ++ [.str wo, ov2]))) lz = some (.lst (LW.map V.str ++ [.str wo, ov2])) := upd_same
          have s1921 := s20.trans s21
          generalize (upd (upd H19 lf (.lst [.str wo, ov2])) lz (.lst (LW.map V.str ++ [.str wo, ov2]))) = H21 at s1921 e21 ⊢
          have oo21 := oo2.same s1921
          have kn : ∀ v ∈ LW.map V.str ++ [.str wo, ov2], Known H21 v ∧ ∀ s, v = .str s → s.length < 2 ^ 20 := by
            intro v hv
            rcases List.mem_append.mp hv with hv | hv
            · obtain ⟨y, hy, rfl⟩ := List.mem_map.mp hv
              exact ⟨.str y, fun s e => by cases e; have := hw10 y hy; omega⟩
            · simp only [List.mem_cons, List.not_mem_nil, or_false] at hv
              rcases hv with rfl | rfl
              · exact ⟨.str wo, fun s e => by cases e; omega⟩
              · refine ⟨oo21.known, fun s e => ?_⟩
                subst e
                cases oo21 with
                | str s h => omega
          refine ⟨_, rfl, lz, rfl, ⟨_, SqL.of e21⟩, fun D3 hD3 => lcV_list (α := V) (K := K) (a := lz) (ys := LW.map V.str ++ [.str wo, ov2]) (j := 7) (fun v => v) (fun _ => V.bl true) hD3 (by rw [List.map_id']; exact SqL.of e21) ?_ (fun v hv H Q sm k => ?_) (fun H22 s22 hL22 => ?_)⟩
          · rw [List.length_append, List.length_map]
            show LW.length + 2 < sizeLine
            rw [sizeLine_eq]; omega
          · obtain ⟨kv, kl⟩ := kn v hv
            obtain ⟨f1, f2, f3⟩ := bool_show (nameV v)
            refine ⟨_, rfl, v, rfl, kv.same sm, kl, fun H1 s1 => ⟨_, _, rfl, .bl _, rfl, rfl, f1, f2, f3, _, rfl, v, rfl, (kv.same sm).same s1, kl, fun H2 s2 => ⟨_, _, rfl, .bl _, rfl, rfl, f1, f2, f3, rfl, ?_⟩⟩⟩
            rw [decide_eq_true rfl]
            exact k H2 (s1.trans s2)
          · refine ⟨_, (LW.map V.str ++ [.str wo, ov2]).map (fun _ => true), rfl, SqL.of (by rw [List.map_map]; exact hL22), ?_⟩
            rw [show ((LW.map V.str ++ [V.str wo, ov2]).map (fun _ => true)).all id = true by rw [all_map]; exact List.all_eq_true.mpr fun _ _ => rfl]
            exact q _ (B19.trans (But.of (s1921.trans s22))) ((hp19.same (s1921.trans s22)).mono (by omega))
end
end My

/-! The end of a law whose defs are told by FnG; what the head says of loose names is handed on. -/
namespace My
open PySem PySem.Spec PyProof.Rows L2
section
variable {P : Program} {w : World} {K : PySem.W.Frag} {mg mb : Str → Option Value} {k : Nat} {fa a : Addr} {fd : FuncData} {x : Str} {sp : Sp} {s : Shared} {vs : List Value} {ns : List Int}
/-- the call, from an abstract heap in which the script alone may stand -/
theorem call_at (H : Hp) (hO : Only H) (hS : SqL K H a (ns.map V.int)) (hok : HOk P w H s.heap) (hA : ∀ b, H b ≠ none → b = a) (hK : H a ≠ none → K.lookup a = none)
    (KX : K.In s.heap) (hns : s.heap.Ns mainGlobals mg) (hb : s.heap.Ns builtinsNs mb) (hbb : ∀ x : Str, x ≠ "__name__" → mb x = bootBuiltins x) (hlim : s.heap.NoLimit) (hg : s.gens = #[])
    (ha : s.heap.get? a = some { cls := .type "list", data := .seq vs.toArray }) (hr : Room k callerA)
    (F : ∀ base : Heap, K.In base → base.Ns mainGlobals mg → FnG P w K mg base CX0 k fa fd [x] sp) (hbind : ∀ (s : Shared) (u : Value), BindsTo s fd ⟨[u], []⟩ [(x, u)])
    (hsp : sp [.ref a] H (fun v _ => v = .bl true) fun _ _ _ => False) :
    codeAny (model P w) callerA (.call (.ref fa) ⟨[.ref a], []⟩) (fun r s' => r = .ok (.ret (.bool true)) ∧ OldK s.heap s'.heap ∧ s'.os = s.os ∧ AllBare s'.gens) s := by
  have other : ∀ {b : Addr} {o : Obj}, s.heap.get? b = some o → (∀ vs n, o.data ≠ .seq vs n) → H b = none := by
    intro b o e d
    cases q : H b with
    | none => rfl
    | some u =>
      obtain rfl := hA b (by rw [q]; simp)
      rw [ha] at e
      cases e
      exact absurd rfl (d _ _)
  have hide : ∀ {b : Addr} {m : Str → Option Value}, s.heap.Ns b m → (hidT s.heap H).Ns b m := by
    rintro b m ⟨o, es, ep, e, d, r⟩
    exact ⟨o, es, ep, hidT_get e (other e (fun vs n z => by rw [d] at z; cases z)), d, r⟩
  have hKb : K.In (hidT s.heap H) := by
    intro b o e
    refine hidT_get (KX b o e) ?_
    cases q : H b with
    | none => rfl
    | some u =>
      obtain rfl := hA b (by rw [q]; simp)
      rw [hK (by rw [q]; simp)] at e
      cases e
  have hM : Mod K mg (hidT s.heap H) := by
    obtain ⟨mc, h1, h2⟩ := hlim
    exact ⟨hKb, hide hns, ⟨mb, hide hb, hbb⟩, mc, hide h1, h2⟩
  have e0 : Env0 P w K mg (hidT s.heap H) callerA [] s H :=
    ⟨rfl, hM, fun b o e => of_hidT e, Nat.le_of_eq (hidT_size _ _), trivial, fun b z => absurd (show b ∈ ([] : List Addr) from z) (by simp), hok, .of_eq hg⟩
  refine codeAny_mono ((F _ hKb (hide hns)).run callerA [] s H ⟨[.ref a], []⟩ [.ref a] [.ref a] _ _ hr rfl e0 (hbind s (.ref a)) (.cons rfl .nil) hsp) ?_
  intro r s' h
  match r, h with
  | .error e, h => exact h.elim
  | .ok .next, h => exact h.elim
  | .ok .brk, h => exact h.elim
  | .ok .cont, h => exact h.elim
  | .ok (.ret u), h =>
    obtain ⟨v, H', os, bare, un, hok', r', q⟩ := h
    obtain rfl : v = .bl true := q
    obtain rfl : u = Value.bool true := r'
    refine ⟨rfl, OldK.of_keep fun b o e => ?_, os, bare⟩
    rcases hO b with z | ⟨ob, xs, z⟩
    · exact un.keep b o e z (fun y => absurd (show b ∈ ([] : List Addr) from y) (by simp)) (by simp)
    · obtain ⟨e1, _⟩ := hok b _ z
      obtain ⟨e2, _⟩ := hok' b _ (un.frzs b ob _ z)
      rw [e] at e1
      cases e1
      exact e2
theorem law_at (KX : K.In s.heap) (hns : s.heap.Ns mainGlobals mg) (hb : s.heap.Ns builtinsNs mb) (hbb : ∀ x : Str, x ≠ "__name__" → mb x = bootBuiltins x) (hlim : s.heap.NoLimit) (hg : s.gens = #[])
    (ha : s.heap.get? a = some { cls := .type "list", data := .seq vs.toArray }) (hi : IntsAre vs ns) (hl : ns.length ≤ sizeLine) (hr : Room k callerA)
    (F : ∀ base : Heap, K.In base → base.Ns mainGlobals mg → FnG P w K mg base CX0 k fa fd [x] sp) (hbind : ∀ (s : Shared) (u : Value), BindsTo s fd ⟨[u], []⟩ [(x, u)])
    (hsp : ∀ H : Hp, Only H → SqL K H a (ns.map V.int) → sp [.ref a] H (fun v _ => v = .bl true) fun _ _ _ => False) :
    codeAny (model P w) callerA (.call (.ref fa) ⟨[.ref a], []⟩) (fun r s' => r = .ok (.ret (.bool true)) ∧ OldK s.heap s'.heap ∧ s'.os = s.os ∧ AllBare s'.gens) s := by
  have rv := vals_ints hi
  cases hk : K.lookup a with
  | some o =>
    have e := KX a o hk
    rw [ha] at e
    cases e
    have hO : Only (fun _ => none) := fun b => .inl rfl
    have hS : SqL K (fun _ => none) a (ns.map V.int) := .inr ⟨_, vs.toArray, _, hk, rfl, rfl, rfl, by rw [List.size_toArray, hi.length]; exact hl, by simpa using rv⟩
    exact call_at _ hO hS (fun b u z => by cases (show (none : Option HO) = some u from z)) (fun b z => absurd rfl z) (fun z => absurd rfl z) KX hns hb hbb hlim hg ha hr F hbind (hsp _ hO hS)
  | none =>
    obtain ⟨H, hH⟩ : ∃ H : Hp, H = upd (fun _ => none) a (.frz { cls := .type "list", data := .seq vs.toArray } (.lst (ns.map V.int))) := ⟨_, rfl⟩
    have atA : H a = some (.frz { cls := .type "list", data := .seq vs.toArray } (.lst (ns.map V.int))) := by rw [hH]; exact upd_same
    have off : ∀ b, b ≠ a → H b = none := fun b n => by rw [hH, upd_ne n]
    have hO : Only H := fun b => by
      by_cases e : b = a
      · subst e; exact .inr ⟨_, _, atA⟩
      · exact .inl (off b e)
    have hS : SqL K H a (ns.map V.int) := .inl (.inr ⟨_, atA⟩)
    refine call_at H hO hS (fun b u z => ?_) (fun b z => ?_) (fun _ => hk) KX hns hb hbb hlim hg ha hr F hbind (hsp _ hO hS)
    · by_cases e : b = a
      · subst e
        rw [atA] at z
        cases z
        exact ⟨ha, by rw [List.length_map]; exact hl, vs, _, rv, ha⟩
      · rw [off b e] at z; cases z
    · by_cases e : b = a
      · exact e
      · exact absurd (off b e) z
end
/-- the goal that the head leaves -/
theorem walk_end {l : PySem.W.OpenLaw} {n k : Nat} {q : Program} {loose : List Str} {XP : (Str → Option Value) → Heap → Prop} {YP : World → Heap → Prop} {d : DefRec} {K : Params → PySem.W.Frag} {sp : World → Sp} {x : Str}
    (hn : l.most = some n) (hn2 : n ≤ sizeLine) (hdf : d.params.defaults = []) (hr : Room k callerA) (hY : ∀ (w : World) (h : Heap), YP w h → (K w.params).In h)
    (F : ∀ (w : World) (mg : Str → Option Value) (fa : Addr) (h : Heap), (K w.params).In h → h.Ns mainGlobals mg → XP mg h → mg d.name = some (.ref fa) →
      ∃ fd : FuncData, (∀ (s : Shared) (u : Value), BindsTo s fd ⟨[u], []⟩ [(x, u)]) ∧ ∀ base : Heap, (K w.params).In base → base.Ns mainGlobals mg → FnG l.prog w (K w.params) mg base CX0 k fa fd [x] (sp w))
    (hsp : ∀ (w : World) (H : Hp) (a : Addr) (ns : List Int), ns.length ≤ n → (∀ z ∈ ns, Builtin.Int.intBits z ≤ 1048576) → Only H → SqL (K w.params) H a (ns.map V.int) → sp w [.ref a] H (fun v _ => v = .bl true) fun _ _ _ => False) :
    PySem.W.WalkO q loose XP YP l.row.toRowW d [] (fun f vs => PySem.call f vs) := by
  refine Att.attach_callB hn hdf ?_
  intro w s₀ s₁ mg mb fa o pm cd doc a vs ns G Y ho hd hcd hmg hobj hints hlen hbits hg
  have KX := hY w _ Y
  obtain ⟨fd, hb, hF⟩ := F w mg fa _ KX G.T.g G.X hmg
  exact law_at KX G.T.g G.T.b G.T.builtins G.T.nolimit hg hobj hints (Nat.le_trans hlen hn2) hr hF hb (fun H hO hS => hsp w H a ns hlen hbits hO hS)
end My

namespace My
open PySem PySem.Spec PyProof.Rows L2
/-- law(script) -/
def spLaw (K : PySem.W.Frag) : Sp := fun vs H Q _ => ∃ (a : Addr) (ns : List Int), vs = [.ref a] ∧ SqL K H a (ns.map V.int) ∧ ns.length ≤ 63 ∧ (∀ z ∈ ns, Builtin.Int.intBits z ≤ 1048576) ∧ ∀ H', Q (.bl true) H'
section
variable {P : Program} {w : World} {K : PySem.W.Frag} {mg : Str → Option Value} {base : Heap} {A : Nat → Addr} {D : Nat → FuncData}
theorem ok_law (T : Txt K mg A D) : FnG P w K mg base CX0 5 (A 20) (D 20) ["script"] (spLaw K) := by
  have G__law_cells := ok_cells (P := P) (w := w) (base := base) T
  have G__law_pot := ok_pot (P := P) (w := w) (base := base) T
  have G__law_right := ok_right (P := P) (w := w) (base := base) T
  refine def_ok0 T.F_law sc_law (fun vs H Q E h => ?_) (fun cdv Ar outer s H vs Q E hr hG h => ?_)
  · obtain ⟨a, ns, rfl, _⟩ := h; rfl
  · obtain ⟨a, ns, rfl, hS, hl, hb, q⟩ := h
    refine ⟨_, (pss_cons (ps_for PassesOwn.never rfl (pi_list (pe_cg G__law_cells (hr.mono (by decide)) hG (by rfl) T.g__law_cells T.F__law_cells.kp T.b__law_cells pass0 (pa_cons (pv 0) (pa_cons pe_int pa_nil)))) (pg_name (i := 1) sc_law.nd rfl (Or.inl rfl)) (pss_cons (ps_set (i := 2) sc_law.nd rfl (Or.inr rfl) (pe_cg G__law_pot (hr.mono (by decide)) hG (by rfl) T.g__law_pot T.F__law_pot.kp T.b__law_pot pass0 (pa_cons (pv 0) (pa_cons (pv 1) pa_nil))))
      (pss_one (ps_if (pt_not (pt_val (pe_callB (cr_all rfl) (by rfl) T.n_all (by decide +kernel) (pa_cons (pe_lc (own := [("lap", 3)]) (g := gName 3) (tt := tYes) (by rfl) sc_law.nd (pi_range1 rfl T.n_range (pa_cons pe_int pa_nil)) (blkOk_by (own := [("lap", 3)]) (N := ["script", "place", "pot", "lap"]) (sc := defScope s_law) (by decide +kernel)) (fun _ _ _ _ _ => pg_name (i := 3) sc_law.nd rfl (Or.inl rfl)) (fun _ _ _ _ _ => pts_nil) (fun _ _ _ _ _ => (pe_cg G__law_right (hr.mono (by decide)) hG (by rfl) T.g__law_right T.F__law_right.kp T.b__law_right pass0 (pa_cons (pv 2) pa_nil)))) pa_nil)))) (pss_one (ps_ret pe_bl)) pss_nil))))
      (pss_one (ps_ret pe_bl))), ?_⟩
    refine ⟨_, rfl, a, ns, 4, rfl, hS, hl, by decide, by decide, fun c H1 m s1 hc m1 m2 e1 => ?_⟩
    refine ⟨c, rfl, ⟨_, SqL.of e1⟩, for_list (K := K) (a := c) (xs := rgV 0 m) (fun i σ H' => ∃ u1 u2, σ = [some (.ref a), u1, u2, none] ∧ Same H1 H') ⟨none, none, rfl, Same.refl _⟩ (fun i σ H' _ ⟨_, _, _, s⟩ => s.seq (SqL.of e1)) ?_ ?_⟩
    · rintro i x σ H2 hx ⟨u1, u2, rfl, s2⟩
      obtain ⟨k, rfl, hk⟩ : ∃ k : Nat, x = .int (0 + (k : Int)) ∧ k < m.toNat := by
        obtain ⟨k, hk, rfl⟩ := List.mem_map.mp (List.mem_of_getElem? hx)
        exact ⟨k, rfl, by have := List.mem_range.mp hk; omega⟩
      refine ⟨_, rfl, _, rfl, a, ns, 0 + (k : Int), rfl, s2.seq (s1.seq hS), hl, hb, by omega, by omega, fun p H3 s3 hp0 hp => ?_⟩
      refine ⟨4, rfl, by decide, by decide, fun D hD => lc_range (lo := 0) (n := 4) (vs := [3]) (fun i H' => H' D = some (.lst ((List.replicate i true).map V.bl)) ∧ PotAt H' p (5000 * i) ∧ But p H3 H') ⟨upd_same, hp.same (same_upd hD), But.of (same_upd hD)⟩ ?_ ?_⟩
      · rintro j H4 hj ⟨hl4, hp4, b4⟩
        have hDp : D ≠ p := hp.ne hD
        refine ⟨rfl, _, rfl, p, 5000 * j, rfl, hp4, by omega, fun H5 b5 hp5 => ?_⟩
        refine ⟨_, b5 _ _ hDp hl4, ?_, ?_, ?_, ?_⟩
        · rw [List.length_map, List.length_replicate]; exact small20' (by omega)
        · rw [upd_same, List.replicate_succ', List.map_append]; rfl
        · obtain ⟨o1, s1, c1, e1, e2⟩ := hp5
          exact ⟨o1, s1, c1, by rw [upd_ne hDp.symm]; exact e1, e2⟩
        · intro b o ne e
          rw [upd_ne (ne_of_none e hD)]
          exact (b4.trans b5) b o ne e
      · rintro H4 ⟨hl4, hp4, b4⟩
        refine ⟨_, List.replicate 4 true, rfl, SqL.of hl4, _, rfl, ?_⟩
        refine ⟨_, _, rfl, fun b o e => ?_⟩
        have e2 := s2 _ _ e
        exact b4 _ _ (ne_of_none e2 hp0) (s3 _ _ e2)
    · rintro σ H2 ⟨u1, u2, rfl, s2⟩
      exact q _
end
end My

namespace My
open PySem PySem.Spec PyProof.Rows L2
/-! ### what the top has written; the law's own head -/
theorem all_mk {P : Program} {w : World} {K : PySem.W.Frag} {h : Heap} {mg : Str → Option Value} {fa : Addr} (X : K.In h) (G : h.Ns mainGlobals mg) (hfa : mg "law" = some (.ref fa))
    {f0 : Addr} {od0 an0 : Option Addr} {sl0 : Array (Option Value)} {oc0 kV0 dc0 pm0 cd0 ct0 : Value}
    {f1 : Addr} {od1 an1 : Option Addr} {sl1 : Array (Option Value)} {oc1 kV1 dc1 pm1 cd1 ct1 : Value}
    {f2 : Addr} {od2 an2 : Option Addr} {sl2 : Array (Option Value)} {oc2 kV2 dc2 pm2 cd2 ct2 : Value}
    {f3 : Addr} {od3 an3 : Option Addr} {sl3 : Array (Option Value)} {oc3 kV3 dc3 pm3 cd3 ct3 : Value}
    {f4 : Addr} {od4 an4 : Option Addr} {sl4 : Array (Option Value)} {oc4 kV4 dc4 pm4 cd4 ct4 : Value}
    {f5 : Addr} {od5 an5 : Option Addr} {sl5 : Array (Option Value)} {oc5 kV5 dc5 pm5 cd5 ct5 : Value}
    {f6 : Addr} {od6 an6 : Option Addr} {sl6 : Array (Option Value)} {oc6 kV6 dc6 pm6 cd6 ct6 : Value}
    {f7 : Addr} {od7 an7 : Option Addr} {sl7 : Array (Option Value)} {oc7 kV7 dc7 pm7 cd7 ct7 : Value}
    {f8 : Addr} {od8 an8 : Option Addr} {sl8 : Array (Option Value)} {oc8 kV8 dc8 pm8 cd8 ct8 : Value}
    {f9 : Addr} {od9 an9 : Option Addr} {sl9 : Array (Option Value)} {oc9 kV9 dc9 pm9 cd9 ct9 : Value}
    {f10 : Addr} {od10 an10 : Option Addr} {sl10 : Array (Option Value)} {oc10 kV10 dc10 pm10 cd10 ct10 : Value}
    {f11 : Addr} {od11 an11 : Option Addr} {sl11 : Array (Option Value)} {oc11 kV11 dc11 pm11 cd11 ct11 : Value}
    {f12 : Addr} {od12 an12 : Option Addr} {sl12 : Array (Option Value)} {oc12 kV12 dc12 pm12 cd12 ct12 : Value}
    {f13 : Addr} {od13 an13 : Option Addr} {sl13 : Array (Option Value)} {oc13 kV13 dc13 pm13 cd13 ct13 : Value}
    {f14 : Addr} {od14 an14 : Option Addr} {sl14 : Array (Option Value)} {oc14 kV14 dc14 pm14 cd14 ct14 : Value}
    {f15 : Addr} {od15 an15 : Option Addr} {sl15 : Array (Option Value)} {oc15 kV15 dc15 pm15 cd15 ct15 : Value}
    {f16 : Addr} {od16 an16 : Option Addr} {sl16 : Array (Option Value)} {oc16 kV16 dc16 pm16 cd16 ct16 : Value}
    {f17 : Addr} {od17 an17 : Option Addr} {sl17 : Array (Option Value)} {oc17 kV17 dc17 pm17 cd17 ct17 : Value}
    {f18 : Addr} {od18 an18 : Option Addr} {sl18 : Array (Option Value)} {oc18 kV18 dc18 pm18 cd18 ct18 : Value}
    {f19 : Addr} {od19 an19 : Option Addr} {sl19 : Array (Option Value)} {oc19 kV19 dc19 pm19 cd19 ct19 : Value}
    {f20 : Addr} {od20 an20 : Option Addr} {sl20 : Array (Option Value)} {oc20 kV20 dc20 pm20 cd20 ct20 : Value}
    {v_SMALL : Value}
    {v_FIGURES : Value}
    {v_MOST_SIGNS : Value}
    {v_MOST_JOINED : Value}
    {v_MOST_FIGURES : Value}
    {v_MINUS : Value}
    {v_DOT : Value}
    {v_SLASH : Value}
    {p_LINES : Addr} {o_LINES : Obj} {i_LINES : Array Value} {m_LINES : Nat}
    {p_CLAIMS : Addr} {o_CLAIMS : Obj} {i_CLAIMS : Array Value} {m_CLAIMS : Nat}
    (a0 : PySem.W.nsIn K mainGlobals "is_integer" = some (some (.ref f0)))
    (l0 : K.lookup f0 = some ⟨oc0, od0, .func (PySem.W.fnOf "is_integer" "is_integer" (defArgs s_is_integer) (defBody s_is_integer) (defScope s_is_integer) .none kV0 dc0 pm0 an0 cd0 ct0), sl0⟩)
    (c0 : PySem.W.codeIn K cd0 "is_integer" = true) (k0 : PySem.W.keepIn K (.ref f0) = true)
    (a1 : PySem.W.nsIn K mainGlobals "is_name" = some (some (.ref f1)))
    (l1 : K.lookup f1 = some ⟨oc1, od1, .func (PySem.W.fnOf "is_name" "is_name" (defArgs s_is_name) (defBody s_is_name) (defScope s_is_name) .none kV1 dc1 pm1 an1 cd1 ct1), sl1⟩)
    (c1 : PySem.W.codeIn K cd1 "is_name" = true) (k1 : PySem.W.keepIn K (.ref f1) = true)
    (a2 : PySem.W.nsIn K mainGlobals "is_state" = some (some (.ref f2)))
    (l2 : K.lookup f2 = some ⟨oc2, od2, .func (PySem.W.fnOf "is_state" "is_state" (defArgs s_is_state) (defBody s_is_state) (defScope s_is_state) .none kV2 dc2 pm2 an2 cd2 ct2), sl2⟩)
    (c2 : PySem.W.codeIn K cd2 "is_state" = true) (k2 : PySem.W.keepIn K (.ref f2) = true)
    (a3 : PySem.W.nsIn K mainGlobals "common" = some (some (.ref f3)))
    (l3 : K.lookup f3 = some ⟨oc3, od3, .func (PySem.W.fnOf "common" "common" (defArgs s_common) (defBody s_common) (defScope s_common) .none kV3 dc3 pm3 an3 cd3 ct3), sl3⟩)
    (c3 : PySem.W.codeIn K cd3 "common" = true) (k3 : PySem.W.keepIn K (.ref f3) = true)
    (a4 : PySem.W.nsIn K mainGlobals "is_fraction" = some (some (.ref f4)))
    (l4 : K.lookup f4 = some ⟨oc4, od4, .func (PySem.W.fnOf "is_fraction" "is_fraction" (defArgs s_is_fraction) (defBody s_is_fraction) (defScope s_is_fraction) .none kV4 dc4 pm4 an4 cd4 ct4), sl4⟩)
    (c4 : PySem.W.codeIn K cd4 "is_fraction" = true) (k4 : PySem.W.keepIn K (.ref f4) = true)
    (a5 : PySem.W.nsIn K mainGlobals "read_integer" = some (some (.ref f5)))
    (l5 : K.lookup f5 = some ⟨oc5, od5, .func (PySem.W.fnOf "read_integer" "read_integer" (defArgs s_read_integer) (defBody s_read_integer) (defScope s_read_integer) .none kV5 dc5 pm5 an5 cd5 ct5), sl5⟩)
    (c5 : PySem.W.codeIn K cd5 "read_integer" = true) (k5 : PySem.W.keepIn K (.ref f5) = true)
    (a6 : PySem.W.nsIn K mainGlobals "read_fraction" = some (some (.ref f6)))
    (l6 : K.lookup f6 = some ⟨oc6, od6, .func (PySem.W.fnOf "read_fraction" "read_fraction" (defArgs s_read_fraction) (defBody s_read_fraction) (defScope s_read_fraction) .none kV6 dc6 pm6 an6 cd6 ct6), sl6⟩)
    (c6 : PySem.W.codeIn K cd6 "read_fraction" = true) (k6 : PySem.W.keepIn K (.ref f6) = true)
    (a7 : PySem.W.nsIn K mainGlobals "fraction_text" = some (some (.ref f7)))
    (l7 : K.lookup f7 = some ⟨oc7, od7, .func (PySem.W.fnOf "fraction_text" "fraction_text" (defArgs s_fraction_text) (defBody s_fraction_text) (defScope s_fraction_text) .none kV7 dc7 pm7 an7 cd7 ct7), sl7⟩)
    (c7 : PySem.W.codeIn K cd7 "fraction_text" = true) (k7 : PySem.W.keepIn K (.ref f7) = true)
    (a8 : PySem.W.nsIn K mainGlobals "_law_pot" = some (some (.ref f8)))
    (l8 : K.lookup f8 = some ⟨oc8, od8, .func (PySem.W.fnOf "_law_pot" "_law_pot" (defArgs s__law_pot) (defBody s__law_pot) (defScope s__law_pot) .none kV8 dc8 pm8 an8 cd8 ct8), sl8⟩)
    (c8 : PySem.W.codeIn K cd8 "_law_pot" = true) (k8 : PySem.W.keepIn K (.ref f8) = true)
    (a9 : PySem.W.nsIn K mainGlobals "_law_take" = some (some (.ref f9)))
    (l9 : K.lookup f9 = some ⟨oc9, od9, .func (PySem.W.fnOf "_law_take" "_law_take" (defArgs s__law_take) (defBody s__law_take) (defScope s__law_take) .none kV9 dc9 pm9 an9 cd9 ct9), sl9⟩)
    (c9 : PySem.W.codeIn K cd9 "_law_take" = true) (k9 : PySem.W.keepIn K (.ref f9) = true)
    (a10 : PySem.W.nsIn K mainGlobals "_law_of" = some (some (.ref f10)))
    (l10 : K.lookup f10 = some ⟨oc10, od10, .func (PySem.W.fnOf "_law_of" "_law_of" (defArgs s__law_of) (defBody s__law_of) (defScope s__law_of) .none kV10 dc10 pm10 an10 cd10 ct10), sl10⟩)
    (c10 : PySem.W.codeIn K cd10 "_law_of" = true) (k10 : PySem.W.keepIn K (.ref f10) = true)
    (a11 : PySem.W.nsIn K mainGlobals "_law_cells" = some (some (.ref f11)))
    (l11 : K.lookup f11 = some ⟨oc11, od11, .func (PySem.W.fnOf "_law_cells" "_law_cells" (defArgs s__law_cells) (defBody s__law_cells) (defScope s__law_cells) .none kV11 dc11 pm11 an11 cd11 ct11), sl11⟩)
    (c11 : PySem.W.codeIn K cd11 "_law_cells" = true) (k11 : PySem.W.keepIn K (.ref f11) = true)
    (a12 : PySem.W.nsIn K mainGlobals "_law_odd" = some (some (.ref f12)))
    (l12 : K.lookup f12 = some ⟨oc12, od12, .func (PySem.W.fnOf "_law_odd" "_law_odd" (defArgs s__law_odd) (defBody s__law_odd) (defScope s__law_odd) .none kV12 dc12 pm12 an12 cd12 ct12), sl12⟩)
    (c12 : PySem.W.codeIn K cd12 "_law_odd" = true) (k12 : PySem.W.keepIn K (.ref f12) = true)
    (a13 : PySem.W.nsIn K mainGlobals "_law_integer" = some (some (.ref f13)))
    (l13 : K.lookup f13 = some ⟨oc13, od13, .func (PySem.W.fnOf "_law_integer" "_law_integer" (defArgs s__law_integer) (defBody s__law_integer) (defScope s__law_integer) .none kV13 dc13 pm13 an13 cd13 ct13), sl13⟩)
    (c13 : PySem.W.codeIn K cd13 "_law_integer" = true) (k13 : PySem.W.keepIn K (.ref f13) = true)
    (a14 : PySem.W.nsIn K mainGlobals "_law_reduced" = some (some (.ref f14)))
    (l14 : K.lookup f14 = some ⟨oc14, od14, .func (PySem.W.fnOf "_law_reduced" "_law_reduced" (defArgs s__law_reduced) (defBody s__law_reduced) (defScope s__law_reduced) .none kV14 dc14 pm14 an14 cd14 ct14), sl14⟩)
    (c14 : PySem.W.codeIn K cd14 "_law_reduced" = true) (k14 : PySem.W.keepIn K (.ref f14) = true)
    (a15 : PySem.W.nsIn K mainGlobals "_law_is_integer" = some (some (.ref f15)))
    (l15 : K.lookup f15 = some ⟨oc15, od15, .func (PySem.W.fnOf "_law_is_integer" "_law_is_integer" (defArgs s__law_is_integer) (defBody s__law_is_integer) (defScope s__law_is_integer) .none kV15 dc15 pm15 an15 cd15 ct15), sl15⟩)
    (c15 : PySem.W.codeIn K cd15 "_law_is_integer" = true) (k15 : PySem.W.keepIn K (.ref f15) = true)
    (a16 : PySem.W.nsIn K mainGlobals "_law_read" = some (some (.ref f16)))
    (l16 : K.lookup f16 = some ⟨oc16, od16, .func (PySem.W.fnOf "_law_read" "_law_read" (defArgs s__law_read) (defBody s__law_read) (defScope s__law_read) .none kV16 dc16 pm16 an16 cd16 ct16), sl16⟩)
    (c16 : PySem.W.codeIn K cd16 "_law_read" = true) (k16 : PySem.W.keepIn K (.ref f16) = true)
    (a17 : PySem.W.nsIn K mainGlobals "_law_is_name" = some (some (.ref f17)))
    (l17 : K.lookup f17 = some ⟨oc17, od17, .func (PySem.W.fnOf "_law_is_name" "_law_is_name" (defArgs s__law_is_name) (defBody s__law_is_name) (defScope s__law_is_name) .none kV17 dc17 pm17 an17 cd17 ct17), sl17⟩)
    (c17 : PySem.W.codeIn K cd17 "_law_is_name" = true) (k17 : PySem.W.keepIn K (.ref f17) = true)
    (a18 : PySem.W.nsIn K mainGlobals "_law_word" = some (some (.ref f18)))
    (l18 : K.lookup f18 = some ⟨oc18, od18, .func (PySem.W.fnOf "_law_word" "_law_word" (defArgs s__law_word) (defBody s__law_word) (defScope s__law_word) .none kV18 dc18 pm18 an18 cd18 ct18), sl18⟩)
    (c18 : PySem.W.codeIn K cd18 "_law_word" = true) (k18 : PySem.W.keepIn K (.ref f18) = true)
    (a19 : PySem.W.nsIn K mainGlobals "_law_right" = some (some (.ref f19)))
    (l19 : K.lookup f19 = some ⟨oc19, od19, .func (PySem.W.fnOf "_law_right" "_law_right" (defArgs s__law_right) (defBody s__law_right) (defScope s__law_right) .none kV19 dc19 pm19 an19 cd19 ct19), sl19⟩)
    (c19 : PySem.W.codeIn K cd19 "_law_right" = true) (k19 : PySem.W.keepIn K (.ref f19) = true)
    (a20 : PySem.W.nsIn K mainGlobals "law" = some (some (.ref f20)))
    (l20 : K.lookup f20 = some ⟨oc20, od20, .func (PySem.W.fnOf "law" "law" (defArgs s_law) (defBody s_law) (defScope s_law) .none kV20 dc20 pm20 an20 cd20 ct20), sl20⟩)
    (c20 : PySem.W.codeIn K cd20 "law" = true) (k20 : PySem.W.keepIn K (.ref f20) = true)
    (n_len : PySem.W.nsIn K mainGlobals "len" = some none)
    (n_int : PySem.W.nsIn K mainGlobals "int" = some none)
    (n_bool : PySem.W.nsIn K mainGlobals "bool" = some none)
    (n_str : PySem.W.nsIn K mainGlobals "str" = some none)
    (n_tuple : PySem.W.nsIn K mainGlobals "tuple" = some none)
    (n_list : PySem.W.nsIn K mainGlobals "list" = some none)
    (n_dict : PySem.W.nsIn K mainGlobals "dict" = some none)
    (n_abs : PySem.W.nsIn K mainGlobals "abs" = some none)
    (n_max : PySem.W.nsIn K mainGlobals "max" = some none)
    (n_min : PySem.W.nsIn K mainGlobals "min" = some none)
    (n_sum : PySem.W.nsIn K mainGlobals "sum" = some none)
    (n_all : PySem.W.nsIn K mainGlobals "all" = some none)
    (n_isinstance : PySem.W.nsIn K mainGlobals "isinstance" = some none)
    (n_range : PySem.W.nsIn K mainGlobals "range" = some none)
    (n_repr : PySem.W.nsIn K mainGlobals "repr" = some none)
    (c_SMALL : PySem.W.nsIn K mainGlobals "SMALL" = some (some v_SMALL)) (r_SMALL : RelV (.str "abcdefghijklmnopqrstuvwxyz") v_SMALL)
    (c_FIGURES : PySem.W.nsIn K mainGlobals "FIGURES" = some (some v_FIGURES)) (r_FIGURES : RelV (.str "0123456789") v_FIGURES)
    (c_MOST_SIGNS : PySem.W.nsIn K mainGlobals "MOST_SIGNS" = some (some v_MOST_SIGNS)) (r_MOST_SIGNS : RelV (.int 8) v_MOST_SIGNS)
    (c_MOST_JOINED : PySem.W.nsIn K mainGlobals "MOST_JOINED" = some (some v_MOST_JOINED)) (r_MOST_JOINED : RelV (.int 60) v_MOST_JOINED)
    (c_MOST_FIGURES : PySem.W.nsIn K mainGlobals "MOST_FIGURES" = some (some v_MOST_FIGURES)) (r_MOST_FIGURES : RelV (.int 300) v_MOST_FIGURES)
    (c_MINUS : PySem.W.nsIn K mainGlobals "MINUS" = some (some v_MINUS)) (r_MINUS : RelV (.str "-") v_MINUS)
    (c_DOT : PySem.W.nsIn K mainGlobals "DOT" = some (some v_DOT)) (r_DOT : RelV (.str ".") v_DOT)
    (c_SLASH : PySem.W.nsIn K mainGlobals "SLASH" = some (some v_SLASH)) (r_SLASH : RelV (.str "/") v_SLASH)
    (c_BEYOND : ∃ u, mg "BEYOND" = some u ∧ RelV (.int (10 ^ 300)) u)
    (c_LINES : PySem.W.nsIn K mainGlobals "LINES" = some (some (.ref p_LINES))) (l_LINES : K.lookup p_LINES = some o_LINES) (t_LINES : o_LINES.cls = .type "tuple") (d_LINES : o_LINES.data = .seq i_LINES m_LINES) (z_LINES : i_LINES.size ≤ sizeLine) (v_LINES : Vals (linesW.map V.str) i_LINES.toList)
    (c_CLAIMS : PySem.W.nsIn K mainGlobals "CLAIMS" = some (some (.ref p_CLAIMS))) (l_CLAIMS : K.lookup p_CLAIMS = some o_CLAIMS) (t_CLAIMS : o_CLAIMS.cls = .type "tuple") (d_CLAIMS : o_CLAIMS.data = .seq i_CLAIMS m_CLAIMS) (z_CLAIMS : i_CLAIMS.size ≤ sizeLine) (v_CLAIMS : Vals (claimsW.map V.str) i_CLAIMS.toList) :
    ∃ fd : FuncData, (∀ (s : Shared) (v : Value), BindsTo s fd ⟨[v], []⟩ [("script", v)]) ∧ ∀ base : Heap, K.In base → base.Ns mainGlobals mg → FnG P w K mg base CX0 5 fa fd ["script"] (spLaw K) := by
  have e := V.ref.inj (show V.ref f20 = V.ref fa by have z := hfa.symm.trans (PySem.W.mg_of X G a20); cases z; rfl)
  subst e
  have F0 := fun_mk (st := s_is_integer) l0 c0 k0
  have F1 := fun_mk (st := s_is_name) l1 c1 k1
  have F2 := fun_mk (st := s_is_state) l2 c2 k2
  have F3 := fun_mk (st := s_common) l3 c3 k3
  have F4 := fun_mk (st := s_is_fraction) l4 c4 k4
  have F5 := fun_mk (st := s_read_integer) l5 c5 k5
  have F6 := fun_mk (st := s_read_fraction) l6 c6 k6
  have F7 := fun_mk (st := s_fraction_text) l7 c7 k7
  have F8 := fun_mk (st := s__law_pot) l8 c8 k8
  have F9 := fun_mk (st := s__law_take) l9 c9 k9
  have F10 := fun_mk (st := s__law_of) l10 c10 k10
  have F11 := fun_mk (st := s__law_cells) l11 c11 k11
  have F12 := fun_mk (st := s__law_odd) l12 c12 k12
  have F13 := fun_mk (st := s__law_integer) l13 c13 k13
  have F14 := fun_mk (st := s__law_reduced) l14 c14 k14
  have F15 := fun_mk (st := s__law_is_integer) l15 c15 k15
  have F16 := fun_mk (st := s__law_read) l16 c16 k16
  have F17 := fun_mk (st := s__law_is_name) l17 c17 k17
  have F18 := fun_mk (st := s__law_word) l18 c18 k18
  have F19 := fun_mk (st := s__law_right) l19 c19 k19
  have F20 := fun_mk (st := s_law) l20 c20 k20
  have T : Txt K mg (fun i => [f0, f1, f2, f3, f4, f5, f6, f7, f8, f9, f10, f11, f12, f13, f14, f15, f16, f17, f18, f19, f20, 0, 0, 0, 0, 0, 0, 0, 0, 0, 0, 0, 0, 0, 0, 0, 0, 0, 0, 0, 0, 0, 0, 0, 0, 0, 0, 0, 0, 0, 0, 0, 0, 0, 0, 0, 0, 0, 0, 0, 0, 0, 0, 0, 0, 0, 0, 0, 0, 0, 0, 0, 0, 0, 0, 0, 0, 0, 0, 0, 0, 0, 0, 0, 0, 0, 0, 0, 0, 0, 0, 0, 0, 0, 0, 0, 0, 0, 0, 0, p_LINES, p_CLAIMS].getD i 0) (fun i => [(PySem.W.fnOf "is_integer" "is_integer" (defArgs s_is_integer) (defBody s_is_integer) (defScope s_is_integer) .none kV0 dc0 pm0 an0 cd0 ct0), (PySem.W.fnOf "is_name" "is_name" (defArgs s_is_name) (defBody s_is_name) (defScope s_is_name) .none kV1 dc1 pm1 an1 cd1 ct1), (PySem.W.fnOf "is_state" "is_state" (defArgs s_is_state) (defBody s_is_state) (defScope s_is_state) .none kV2 dc2 pm2 an2 cd2 ct2), (PySem.W.fnOf "common" "common" (defArgs s_common) (defBody s_common) (defScope s_common) .none kV3 dc3 pm3 an3 cd3 ct3), (PySem.W.fnOf "is_fraction" "is_fraction" (defArgs s_is_fraction) (defBody s_is_fraction) (defScope s_is_fraction) .none kV4 dc4 pm4 an4 cd4 ct4), (PySem.W.fnOf "read_integer" "read_integer" (defArgs s_read_integer) (defBody s_read_integer) (defScope s_read_integer) .none kV5 dc5 pm5 an5 cd5 ct5), (PySem.W.fnOf "read_fraction" "read_fraction" (defArgs s_read_fraction) (defBody s_read_fraction) (defScope s_read_fraction) .none kV6 dc6 pm6 an6 cd6 ct6), (PySem.W.fnOf "fraction_text" "fraction_text" (defArgs s_fraction_text) (defBody s_fraction_text) (defScope s_fraction_text) .none kV7 dc7 pm7 an7 cd7 ct7), (PySem.W.fnOf "_law_pot" "_law_pot" (defArgs s__law_pot) (defBody s__law_pot) (defScope s__law_pot) .none kV8 dc8 pm8 an8 cd8 ct8), (PySem.W.fnOf "_law_take" "_law_take" (defArgs s__law_take) (defBody s__law_take) (defScope s__law_take) .none kV9 dc9 pm9 an9 cd9 ct9), (PySem.W.fnOf "_law_of" "_law_of" (defArgs s__law_of) (defBody s__law_of) (defScope s__law_of) .none kV10 dc10 pm10 an10 cd10 ct10), (PySem.W.fnOf "_law_cells" "_law_cells" (defArgs s__law_cells) (defBody s__law_cells) (defScope s__law_cells) .none kV11 dc11 pm11 an11 cd11 ct11), (PySem.W.fnOf "_law_odd" "_law_odd" (defArgs s__law_odd) (defBody s__law_odd) (defScope s__law_odd) .none kV12 dc12 pm12 an12 cd12 ct12), (PySem.W.fnOf "_law_integer" "_law_integer" (defArgs s__law_integer) (defBody s__law_integer) (defScope s__law_integer) .none kV13 dc13 pm13 an13 cd13 ct13), (PySem.W.fnOf "_law_reduced" "_law_reduced" (defArgs s__law_reduced) (defBody s__law_reduced) (defScope s__law_reduced) .none kV14 dc14 pm14 an14 cd14 ct14), (PySem.W.fnOf "_law_is_integer" "_law_is_integer" (defArgs s__law_is_integer) (defBody s__law_is_integer) (defScope s__law_is_integer) .none kV15 dc15 pm15 an15 cd15 ct15), (PySem.W.fnOf "_law_read" "_law_read" (defArgs s__law_read) (defBody s__law_read) (defScope s__law_read) .none kV16 dc16 pm16 an16 cd16 ct16), (PySem.W.fnOf "_law_is_name" "_law_is_name" (defArgs s__law_is_name) (defBody s__law_is_name) (defScope s__law_is_name) .none kV17 dc17 pm17 an17 cd17 ct17), (PySem.W.fnOf "_law_word" "_law_word" (defArgs s__law_word) (defBody s__law_word) (defScope s__law_word) .none kV18 dc18 pm18 an18 cd18 ct18), (PySem.W.fnOf "_law_right" "_law_right" (defArgs s__law_right) (defBody s__law_right) (defScope s__law_right) .none kV19 dc19 pm19 an19 cd19 ct19), (PySem.W.fnOf "law" "law" (defArgs s_law) (defBody s_law) (defScope s_law) .none kV20 dc20 pm20 an20 cd20 ct20)].getD i (PySem.W.fnOf "is_integer" "is_integer" (defArgs s_is_integer) (defBody s_is_integer) (defScope s_is_integer) .none kV0 dc0 pm0 an0 cd0 ct0)) :=
    { F_is_integer := F0,
      g_is_integer := PySem.W.mg_of X G a0,
      b_is_integer := F0.binds (ps := ["value"]) fun _ _ _ _ _ _ us hl => match us, hl with | [_], _ => rfl,
      F_is_name := F1,
      g_is_name := PySem.W.mg_of X G a1,
      b_is_name := F1.binds (ps := ["value"]) fun _ _ _ _ _ _ us hl => match us, hl with | [_], _ => rfl,
      kb_is_name := kbind1 F1 (fun _ _ _ _ _ _ _ => rfl) (fun _ _ _ _ _ _ _ => rfl),
      F_is_state := F2,
      g_is_state := PySem.W.mg_of X G a2,
      b_is_state := F2.binds (ps := ["value"]) fun _ _ _ _ _ _ us hl => match us, hl with | [_], _ => rfl,
      kb_is_state := kbind1 F2 (fun _ _ _ _ _ _ _ => rfl) (fun _ _ _ _ _ _ _ => rfl),
      F_common := F3,
      g_common := PySem.W.mg_of X G a3,
      b_common := F3.binds (ps := ["one", "other"]) fun _ _ _ _ _ _ us hl => match us, hl with | [_, _], _ => rfl,
      F_is_fraction := F4,
      g_is_fraction := PySem.W.mg_of X G a4,
      b_is_fraction := F4.binds (ps := ["value"]) fun _ _ _ _ _ _ us hl => match us, hl with | [_], _ => rfl,
      kb_is_fraction := kbind1 F4 (fun _ _ _ _ _ _ _ => rfl) (fun _ _ _ _ _ _ _ => rfl),
      F_read_integer := F5,
      g_read_integer := PySem.W.mg_of X G a5,
      b_read_integer := F5.binds (ps := ["word"]) fun _ _ _ _ _ _ us hl => match us, hl with | [_], _ => rfl,
      F_read_fraction := F6,
      g_read_fraction := PySem.W.mg_of X G a6,
      b_read_fraction := F6.binds (ps := ["word"]) fun _ _ _ _ _ _ us hl => match us, hl with | [_], _ => rfl,
      kb_read_fraction := kbind1 F6 (fun _ _ _ _ _ _ _ => rfl) (fun _ _ _ _ _ _ _ => rfl),
      F_fraction_text := F7,
      g_fraction_text := PySem.W.mg_of X G a7,
      b_fraction_text := F7.binds (ps := ["one"]) fun _ _ _ _ _ _ us hl => match us, hl with | [_], _ => rfl,
      kb_fraction_text := kbind1 F7 (fun _ _ _ _ _ _ _ => rfl) (fun _ _ _ _ _ _ _ => rfl),
      F__law_pot := F8,
      g__law_pot := PySem.W.mg_of X G a8,
      b__law_pot := F8.binds (ps := ["script", "place"]) fun _ _ _ _ _ _ us hl => match us, hl with | [_, _], _ => rfl,
      F__law_take := F9,
      g__law_take := PySem.W.mg_of X G a9,
      b__law_take := F9.binds (ps := ["pot", "upto"]) fun _ _ _ _ _ _ us hl => match us, hl with | [_, _], _ => rfl,
      F__law_of := F10,
      g__law_of := PySem.W.mg_of X G a10,
      b__law_of := F10.binds (ps := ["pot", "some"]) fun _ _ _ _ _ _ us hl => match us, hl with | [_, _], _ => rfl,
      F__law_cells := F11,
      g__law_cells := PySem.W.mg_of X G a11,
      b__law_cells := F11.binds (ps := ["script", "most"]) fun _ _ _ _ _ _ us hl => match us, hl with | [_, _], _ => rfl,
      F__law_odd := F12,
      g__law_odd := PySem.W.mg_of X G a12,
      b__law_odd := F12.binds (ps := ["pot"]) fun _ _ _ _ _ _ us hl => match us, hl with | [_], _ => rfl,
      F__law_integer := F13,
      g__law_integer := PySem.W.mg_of X G a13,
      b__law_integer := F13.binds (ps := ["pot"]) fun _ _ _ _ _ _ us hl => match us, hl with | [_], _ => rfl,
      F__law_reduced := F14,
      g__law_reduced := PySem.W.mg_of X G a14,
      b__law_reduced := F14.binds (ps := ["top", "low"]) fun _ _ _ _ _ _ us hl => match us, hl with | [_, _], _ => rfl,
      F__law_is_integer := F15,
      g__law_is_integer := PySem.W.mg_of X G a15,
      b__law_is_integer := F15.binds (ps := ["value"]) fun _ _ _ _ _ _ us hl => match us, hl with | [_], _ => rfl,
      F__law_read := F16,
      g__law_read := PySem.W.mg_of X G a16,
      b__law_read := F16.binds (ps := ["word"]) fun _ _ _ _ _ _ us hl => match us, hl with | [_], _ => rfl,
      F__law_is_name := F17,
      g__law_is_name := PySem.W.mg_of X G a17,
      b__law_is_name := F17.binds (ps := ["value"]) fun _ _ _ _ _ _ us hl => match us, hl with | [_], _ => rfl,
      F__law_word := F18,
      g__law_word := PySem.W.mg_of X G a18,
      b__law_word := F18.binds (ps := ["pot"]) fun _ _ _ _ _ _ us hl => match us, hl with | [_], _ => rfl,
      F__law_right := F19,
      g__law_right := PySem.W.mg_of X G a19,
      b__law_right := F19.binds (ps := ["pot"]) fun _ _ _ _ _ _ us hl => match us, hl with | [_], _ => rfl,
      F_law := F20,
      g_law := PySem.W.mg_of X G a20,
      b_law := F20.binds (ps := ["script"]) fun _ _ _ _ _ _ us hl => match us, hl with | [_], _ => rfl,
      n_len := PySem.W.mg_none_of X G n_len,
      n_int := PySem.W.mg_none_of X G n_int,
      n_bool := PySem.W.mg_none_of X G n_bool,
      n_str := PySem.W.mg_none_of X G n_str,
      n_tuple := PySem.W.mg_none_of X G n_tuple,
      n_list := PySem.W.mg_none_of X G n_list,
      n_dict := PySem.W.mg_none_of X G n_dict,
      n_abs := PySem.W.mg_none_of X G n_abs,
      n_max := PySem.W.mg_none_of X G n_max,
      n_min := PySem.W.mg_none_of X G n_min,
      n_sum := PySem.W.mg_none_of X G n_sum,
      n_all := PySem.W.mg_none_of X G n_all,
      n_isinstance := PySem.W.mg_none_of X G n_isinstance,
      n_range := PySem.W.mg_none_of X G n_range,
      n_repr := PySem.W.mg_none_of X G n_repr,
      c_SMALL := ⟨_, PySem.W.mg_of X G c_SMALL, r_SMALL⟩,
      c_FIGURES := ⟨_, PySem.W.mg_of X G c_FIGURES, r_FIGURES⟩,
      c_MOST_SIGNS := ⟨_, PySem.W.mg_of X G c_MOST_SIGNS, r_MOST_SIGNS⟩,
      c_MOST_JOINED := ⟨_, PySem.W.mg_of X G c_MOST_JOINED, r_MOST_JOINED⟩,
      c_MOST_FIGURES := ⟨_, PySem.W.mg_of X G c_MOST_FIGURES, r_MOST_FIGURES⟩,
      c_MINUS := ⟨_, PySem.W.mg_of X G c_MINUS, r_MINUS⟩,
      c_DOT := ⟨_, PySem.W.mg_of X G c_DOT, r_DOT⟩,
      c_SLASH := ⟨_, PySem.W.mg_of X G c_SLASH, r_SLASH⟩,
      c_BEYOND := c_BEYOND,
      c_LINES := ⟨_, PySem.W.mg_of X G c_LINES, rfl⟩,
      t_LINES := fun H => .inr ⟨o_LINES, i_LINES, m_LINES, l_LINES, t_LINES, d_LINES, z_LINES, v_LINES⟩,
      c_CLAIMS := ⟨_, PySem.W.mg_of X G c_CLAIMS, rfl⟩,
      t_CLAIMS := fun H => .inr ⟨o_CLAIMS, i_CLAIMS, m_CLAIMS, l_CLAIMS, t_CLAIMS, d_CLAIMS, z_CLAIMS, v_CLAIMS⟩ }
  exact ⟨(PySem.W.fnOf "law" "law" (defArgs s_law) (defBody s_law) (defScope s_law) .none kV20 dc20 pm20 an20 cd20 ct20), fun s v => .of_eq rfl, fun base _ _ => ok_law T⟩
end My
open PySem PySem.W PyProof.Rows
set_option maxRecDepth 100000 in
set_option maxHeartbeats 0 in
theorem PySem.Challenge.cw_holdsfailsopen_k24_whole_numbers_as_text_holds : PySem.Challenge.rw_holdsfailsopen_k24_whole_numbers_as_text.Holds := by
  w_on; o_law; k_head; (case hw => w_witness2)
  k_fill
  refine My.walk_end (l := PySem.Challenge.rw_holdsfailsopen_k24_whole_numbers_as_text) (n := 63) (k := 5) (x := "script") (sp := fun w => My.spLaw _) rfl (by decide) rfl ⟨rfl, by decide, by decide⟩ (fun w h Y => PySem.W.kIn_of Y) ?F (fun w H a ns hl hb _ hS => ⟨a, ns, rfl, hS, hl, hb, fun _ => rfl⟩)
  case F =>
    intro w mg fa h KX G hX hmg
    have lo_BEYOND : ∃ u, mg "BEYOND" = some u ∧ L2.RelV (.int (10 ^ 300)) u := by
      obtain ⟨v, e, r⟩ := hX.2.val _ (by first | exact List.mem_cons_self | (simp only [List.mem_cons, true_or, or_true]))
      cases r with | int i t => exact ⟨_, e, t, rfl⟩
    refine' My.all_mk KX G hmg ?a0 ?l0 ?c0 ?k0 ?a1 ?l1 ?c1 ?k1 ?a2 ?l2 ?c2 ?k2 ?a3 ?l3 ?c3 ?k3 ?a4 ?l4 ?c4 ?k4 ?a5 ?l5 ?c5 ?k5 ?a6 ?l6 ?c6 ?k6 ?a7 ?l7 ?c7 ?k7 ?a8 ?l8 ?c8 ?k8 ?a9 ?l9 ?c9 ?k9 ?a10 ?l10 ?c10 ?k10 ?a11 ?l11 ?c11 ?k11 ?a12 ?l12 ?c12 ?k12 ?a13 ?l13 ?c13 ?k13 ?a14 ?l14 ?c14 ?k14 ?a15 ?l15 ?c15 ?k15 ?a16 ?l16 ?c16 ?k16 ?a17 ?l17 ?c17 ?k17 ?a18 ?l18 ?c18 ?k18 ?a19 ?l19 ?c19 ?k19 ?a20 ?l20 ?c20 ?k20 ?n_len ?n_int ?n_bool ?n_str ?n_tuple ?n_list ?n_dict ?n_abs ?n_max ?n_min ?n_sum ?n_all ?n_isinstance ?n_range ?n_repr ?c_SMALL ?r_SMALL ?c_FIGURES ?r_FIGURES ?c_MOST_SIGNS ?r_MOST_SIGNS ?c_MOST_JOINED ?r_MOST_JOINED ?c_MOST_FIGURES ?r_MOST_FIGURES ?c_MINUS ?r_MINUS ?c_DOT ?r_DOT ?c_SLASH ?r_SLASH lo_BEYOND ?c_LINES ?l_LINES ?t_LINES ?d_LINES ?z_LINES ?v_LINES ?c_CLAIMS ?l_CLAIMS ?t_CLAIMS ?d_CLAIMS ?z_CLAIMS ?v_CLAIMS
    (case a0 => k_is)
    (case l0 => k_is)
    (case c0 => k_is)
    (case k0 => k_is)
    (case a1 => k_is)
    (case l1 => k_is)
    (case c1 => k_is)
    (case k1 => k_is)
    (case a2 => k_is)
    (case l2 => k_is)
    (case c2 => k_is)
    (case k2 => k_is)
    (case a3 => k_is)
    (case l3 => k_is)
    (case c3 => k_is)
    (case k3 => k_is)
    (case a4 => k_is)
    (case l4 => k_is)
    (case c4 => k_is)
    (case k4 => k_is)
    (case a5 => k_is)
    (case l5 => k_is)
    (case c5 => k_is)
    (case k5 => k_is)
    (case a6 => k_is)
    (case l6 => k_is)
    (case c6 => k_is)
    (case k6 => k_is)
    (case a7 => k_is)
    (case l7 => k_is)
    (case c7 => k_is)
    (case k7 => k_is)
    (case a8 => k_is)
    (case l8 => k_is)
    (case c8 => k_is)
    (case k8 => k_is)
    (case a9 => k_is)
    (case l9 => k_is)
    (case c9 => k_is)
    (case k9 => k_is)
    (case a10 => k_is)
    (case l10 => k_is)
    (case c10 => k_is)
    (case k10 => k_is)
    (case a11 => k_is)
    (case l11 => k_is)
    (case c11 => k_is)
    (case k11 => k_is)
    (case a12 => k_is)
    (case l12 => k_is)
    (case c12 => k_is)
    (case k12 => k_is)
    (case a13 => k_is)
    (case l13 => k_is)
    (case c13 => k_is)
    (case k13 => k_is)
    (case a14 => k_is)
    (case l14 => k_is)
    (case c14 => k_is)
    (case k14 => k_is)
    (case a15 => k_is)
    (case l15 => k_is)
    (case c15 => k_is)
    (case k15 => k_is)
    (case a16 => k_is)
    (case l16 => k_is)
    (case c16 => k_is)
    (case k16 => k_is)
    (case a17 => k_is)
    (case l17 => k_is)
    (case c17 => k_is)
    (case k17 => k_is)
    (case a18 => k_is)
    (case l18 => k_is)
    (case c18 => k_is)
    (case k18 => k_is)
    (case a19 => k_is)
    (case l19 => k_is)
    (case c19 => k_is)
    (case k19 => k_is)
    (case a20 => k_is)
    (case l20 => k_is)
    (case c20 => k_is)
    (case k20 => k_is)
    (case n_len => k_is)
    (case n_int => k_is)
    (case n_bool => k_is)
    (case n_str => k_is)
    (case n_tuple => k_is)
    (case n_list => k_is)
    (case n_dict => k_is)
    (case n_abs => k_is)
    (case n_max => k_is)
    (case n_min => k_is)
    (case n_sum => k_is)
    (case n_all => k_is)
    (case n_isinstance => k_is)
    (case n_range => k_is)
    (case n_repr => k_is)
    (case c_SMALL => k_is)
    (case c_FIGURES => k_is)
    (case c_MOST_SIGNS => k_is)
    (case c_MOST_JOINED => k_is)
    (case c_MOST_FIGURES => k_is)
    (case c_MINUS => k_is)
    (case c_DOT => k_is)
    (case c_SLASH => k_is)
    (case c_LINES => k_is)
    (case l_LINES => k_is)
    (case c_CLAIMS => k_is)
    (case l_CLAIMS => k_is)
    (case r_SMALL => exact ⟨_, rfl⟩)
    (case r_FIGURES => exact ⟨_, rfl⟩)
    (case r_MOST_SIGNS => exact ⟨_, rfl⟩)
    (case r_MOST_JOINED => exact ⟨_, rfl⟩)
    (case r_MOST_FIGURES => exact ⟨_, rfl⟩)
    (case r_MINUS => exact ⟨_, rfl⟩)
    (case r_DOT => exact ⟨_, rfl⟩)
    (case r_SLASH => exact ⟨_, rfl⟩)
    (case t_LINES => rfl)
    (case d_LINES => rfl)
    (case z_LINES => rw [sizeLine_eq]; decide)
    (case v_LINES => repeat (first | exact .nil | refine .cons ⟨_, rfl⟩ ?_))
    (case t_CLAIMS => rfl)
    (case d_CLAIMS => rfl)
    (case z_CLAIMS => rw [sizeLine_eq]; decide)
    (case v_CLAIMS => repeat (first | exact .nil | refine .cons ⟨_, rfl⟩ ?_))
