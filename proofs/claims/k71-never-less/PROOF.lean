import PyProof.Rows.All
import Wide.All
import OpenK.AllK
import Wide.FinOn
import HandS.ForMost
import HandS.Wide
import HandS.WideBits
import HandS.Gcd
import HandS.IsInst
import HandS.Zip
import HandS.Defaults
import HandS.MakeKwOnly
import HandS.CallRecv
import HandS.Nested
import HandS.OwnIter
import HandS.IterNext
import HandS.EndBits
import KE.KSuper
import PySem.Challenge.RW_dearestshelf_k71_whole_learning_never_le
import KE.KTupSum
set_option Elab.async false
set_option linter.all false
set_option maxRecDepth 100000
set_option maxHeartbeats 4000000
namespace Dl
open PySem PySem.Spec PyProof.Rows L2
/-! ### numbers -/
/-- a bound on the sizes of numbers, in bits; never unfolded but by cap_eq -/
@[irreducible] def cap : Nat := 40000000
theorem cap_eq : cap = 40000000 := by unfold cap; rfl
theorem bd_le {n : Int} {k : Nat} (h : n.natAbs < 2 ^ k) (hk : k ≤ 40000000) : n.natAbs < 2 ^ cap :=
  Nat.lt_of_lt_of_le h (Nat.pow_le_pow_right (by decide) (by rw [cap_eq]; exact hk))
theorem mul_cap {i j : Int} (hi : i.natAbs < 2 ^ cap) (hj : j.natAbs < 2 ^ cap) : CMulX i j := mulx_ok hi hj (by rw [cap_eq]; decide)
section
variable {X : Cx}
/-- what a division of great numbers asks of the world -/
structure Ar (P : Program) (base : Heap) : Prop where
  seer : base.NoSeer
  tree : P.given.tree = none
/-- // by a positive divisor, however great -/
theorem op_fdivA (ar : Ar X.prog X.base) (hr : Room 32 X.A) (hfr : ∃ env l, X.stack = env :: l ∧ env.scope.isGenerator = false ∧ env.scope.isCoroutine = false ∧ env.builtins = builtinsNs ∧ env.globals = mainGlobals := by exact ⟨_, _, rfl, rfl, rfl, rfl, rfl⟩) :
    OpR X (binaryOp .FloorDiv) (rI (fun _ j => 0 < j) fun i j => .int (i / j)) := by
  intro pins s σ H x y v u Q I rx ry h
  obtain ⟨i, j, rfl, rfl, h1, q⟩ := h
  obtain ⟨t, rfl⟩ := rx
  obtain ⟨t', rfl⟩ := ry
  have h1 : 0 < j := h1
  obtain ⟨env, l, hl, hg, hco, hb, hm⟩ := hfr
  have fr : X.A.frames = some (env :: l) := by rw [← hl]; exact I.ok.frames
  have room : PylongRoom (model X.prog X.w) X.A s := by
    refine PylongRoom.of I.nolimit ?_ (SeerAt.of (ar.seer.keeps I.bk) ar.tree fr hg hco hb hm)
    have := hr.dp
    have e : Builtin.pylongFrames = 100 := rfl
    omega
  refine floordiv_int (by omega) ?_ (.inr room)
  rw [Int.fdiv_eq_ediv_of_nonneg i (by omega)]
  exact ⟨.int (i / j), H, I.tok _, ⟨_, rfl⟩, q⟩
/-- a *= b of great ints -/
theorem ip_mulX : PIp X .Mult (fun x y H Q => ∃ i j, x = .int i ∧ y = .int j ∧ CMulX i j ∧ Q (.int (i * j)) H) := by
  intro pins s σ H x y v u Q I r1 r2 h
  obtain ⟨i, j, e1, e2, hc, q⟩ := h
  subst e1; subst e2
  obtain ⟨t, rfl⟩ := r1
  obtain ⟨t', rfl⟩ := r2
  exact imul_int ⟨.int _, H, I.tok _, ⟨_, rfl⟩, q⟩ hc.ok
theorem log_lt {n k : Nat} (hk : 0 < k) (h : n < 2 ^ k) : n.log2 < k := PySem.Flt.log2_lt_of hk h
/-- math.lcm of two ints of at most 13000 bits -/
theorem cr_lcm : CallR X (.builtin "math.lcm") (fun vs H Q => ∃ a b : Nat, vs = [.int a, .int b] ∧ a < 2 ^ 13000 ∧ b < 2 ^ 13000 ∧ Q (.int ((Nat.lcm a b : Nat) : Int)) H) := by
  intro pins s σ H vs us Q I r h
  obtain ⟨a, b, rfl, ha, hb, q⟩ := h
  obtain ⟨t, u, rfl⟩ := Vals.int2 r
  have l1 : (max 1 a).log2 < 13000 := log_lt (by decide) (by
    rcases Nat.le_total 1 a with h | h
    · rw [Nat.max_eq_right h]; exact ha
    · rw [Nat.max_eq_left h]; exact Nat.one_lt_two_pow (by decide))
  have l2 : (max a b).log2 < 13000 := log_lt (by decide) (by
    rcases Nat.le_total a b with h | h
    · rw [Nat.max_eq_right h]; exact hb
    · rw [Nat.max_eq_left h]; exact ha)
  have e1 : ((a : Int)).natAbs = a := Int.natAbs_natCast a
  have e2 : ((b : Int)).natAbs = b := Int.natAbs_natCast b
  have l3 : (Nat.lcm 1 a).lcm b = a.lcm b := by rw [Nat.lcm_one_left]
  have h3 : a.lcm b < 2 ^ 26000 := by
    have : a.lcm b ≤ a * b := by
      unfold Nat.lcm
      exact Nat.div_le_self _ _
    have k : a * b < 2 ^ 13000 * 2 ^ 13000 := Nat.mul_lt_mul'' ha hb
    rw [← Nat.pow_add] at k
    exact Nat.lt_of_le_of_lt this k
  have hs : (a.lcm b).log2 < bitsLine := by
    have := log_lt (by decide) h3
    have e : bitsLine = 134217728 := by decide
    omega
  refine call_function_meets PySem.W.MGF.kind_lcm PySem.W.MGF.plain_lcm PySem.W.MGF.entry_lcm (PySem.W.MGF.args_lcm _ _) (PySem.W.mg_run_lcm a t b u (by rw [e1]; omega) (by rw [e1, e2]; omega) (by rw [e1, e2, Int.natAbs_natCast, l3]; exact hs)).meets ?_
  rw [e1, e2, l3]
  exact ⟨.int _, H, I.tok _, ⟨_, rfl⟩, q⟩
end
end Dl

namespace Dl
open PySem PySem.Spec PyProof.Rows L2
/-! ### + and - of two instances of one class -/
section
variable {X : Cx}
theorem op_own {op : Operator} {k : Nat} {f C : Addr} {fd : FuncData} {ps : List Str} {sp : Sp} (hc : PySem.W.selfFirst X.K C = true) (hs : PySem.W.findIn X.K (.ref C) (PySem.dunder op.info.2) = some (some (.ref f))) (hf : PySem.W.isFn X.K (.ref f) = true)
    (F : FnOk X.prog X.w X.K X.mg X.base CX0 k f fd ps sp) (hr : Room k X.A) (hb : Binds X.K fd ps []) :
    OpR X (binaryOp op) (fun x y H Q => ∃ a b dx fs dx' fs', x = .ref a ∧ y = .ref b ∧ H a = some (.ins C dx fs) ∧ H b = some (.ins C dx' fs') ∧ sp [x, y] H Q E0) := by
  intro pins s σ H x y v u Q I rx ry h
  obtain ⟨a, b, dx, fs, dx', fs', rfl, rfl, ha, hb', q⟩ := h
  cases rx
  cases ry
  obtain ⟨mA, O, _⟩ := ins_get I.hok ha
  obtain ⟨od, J, _⟩ := O.look
  obtain ⟨mB, O', _⟩ := ins_get I.hok hb'
  obtain ⟨od', J', _⟩ := O'.look
  obtain ⟨m, hF⟩ := I.fr
  refine PySem.W.binop_K hF I.ok.mod.kin J J'.type hc hs hf ?_
  refine thn (run_fn (us := [.ref a, .ref b]) (vs := [.ref a, .ref b]) F hr hb .nil pass0 I (.cons rfl (.cons rfl .nil)) (by simpa using q)) fun r s' hq => ?_
  obtain ⟨z, H', I', rz, qz⟩ := hq
  have fin : EP X pins σ Q r s' := ⟨z, H', I', rz, qz⟩
  cases z with
  | non => cases (show r = Value.none from rz); exact fin
  | bl b => cases (show r = Value.bool b from rz); exact fin
  | int i => obtain ⟨t, e⟩ := (show ∃ t, r = Value.int i t from rz); cases e; exact fin
  | str x => obtain ⟨t, e⟩ := (show ∃ t, r = Value.str x t from rz); cases e; exact fin
  | byt b => obtain ⟨t, e⟩ := (show ∃ t, r = Value.bytes b t from rz); cases e; exact fin
  | flt b => obtain ⟨t, e⟩ := (show ∃ t, r = Value.float b t from rz); cases e; exact fin
  | ref a => cases (show r = Value.ref a from rz); exact fin
  | ty n => cases (show r = Value.type n from rz); exact fin
end
end Dl

namespace Dl
open PySem PySem.Spec PyProof.Rows L2 NdefX
/-! ### a method that says super().m(..) in its first statement -/
/-- the method's row in the written part; its cell __class__ (at cc) holds the class at D -/
structure Sup (P : Program) (K : PySem.W.Frag) (x qual : Str) (st : Stmt) (f : Addr) (fd : FuncData) (cda cc D : Addr) : Prop where
  ex : ∃ (oc : Value) (od : Option Addr) (kV doc pm ct : Value) (an : Option Addr) (osl : Array (Option Value)),
    fd = PySem.W.ksFn x qual (defArgs st) (defBody st) (defScope st) .none kV doc pm an (.ref cda) ct cc ∧ K.lookup f = some ⟨oc, od, .func fd, osl⟩
  code : PySem.W.codeIn K (.ref cda) qual = true
  cell : ∃ (cl : Value) (cld : Option Addr) (csl : Array (Option Value)), K.lookup cc = some ⟨cl, cld, .cell (some (.ref D)), csl⟩
  row : ∃ (ccl : Value) (cdd : Option Addr) (vs : Array Value) (ccs : Array (Option Value)) (tf : Tok), K.lookup cda = some ⟨ccl, cdd, .fields vs, ccs⟩ ∧ vs[2]? = some (.str P.main.file tf)
  kp : PySem.W.keepIn K (.ref f) = true
abbrev nf (x qual : Str) (st : Stmt) (cda cc : Addr) : NF := ⟨x, qual, defArgs st, defBody st, defScope st, [("__class__", cc)], cda⟩
/-- a statement, an expression where the def's own frame runs -/
structure PSAt (X : Cx) (c : Code) (st : Stmt) (t : TS) : Prop where
  run : ∀ (pins : List (Addr × Obj)) (s : Shared) (σ : L2.St) (H : Hp) (D : Ends), Inv X pins σ H s → t D σ H → PySem.wpAt (model X.prog X.w) X.A c (exec st X.env) (SP X pins D) X.xe s
structure PEAt (X : Cx) (c : Code) (e : Expr) (t : TE) : Prop where
  run : ∀ (pins : List (Addr × Obj)) (s : Shared) (σ : L2.St) (H : Hp) (Q : VK), Inv X pins σ H s → t σ H Q → PySem.wpAt (model X.prog X.w) X.A c (eval e X.env) (EP X pins σ Q) X.xe s
structure PSsAt (X : Cx) (c : Code) (st : List Stmt) (t : TS) : Prop where
  run : ∀ (pins : List (Addr × Obj)) (s : Shared) (σ : L2.St) (H : Hp) (D : Ends), Inv X pins σ H s → t D σ H → PySem.wpAt (model X.prog X.w) X.A c (execs st X.env) (SP X pins D) X.xe s
section
variable {X : Cx} {c : Code} {st : Stmt} {rest : List Stmt} {t u : TS} {e : Expr} {te : TE} {pos pos' : Pos}
theorem psa_cons (h1 : PSAt X c st t) (h2 : PSs X rest u) : PSsAt X c (st :: rest) (tSeq t u) := by
  refine ⟨fun pins s σ H D I h => ?_⟩
  refine ks_wpAt_execs_cons (ks_wpAt_mono (h1.run pins s σ H { D with nx := u D } I h) (fun f s1 q => ?_) fun _ _ z => z)
  cases f with
  | next =>
    obtain ⟨σ', H', I', q⟩ := q
    exact PySem.wpAt_of_wpAny (h2.run pins s1 σ' H' D I' q)
  | ret v => exact q
  | brk => exact q
  | cont => exact q
theorem psa_expr (he : PEAt X c e te) (hs : swapsWith e none pos.line X.env = pure false := by rfl) : PSAt X c (.Expr e pos) (tDrop te) := by
  refine ⟨fun pins s σ H D I h => ?_⟩
  exact ks_wpAt_Expr_any (ks_wpAt_mono (he.run pins s σ H _ I h) (fun v s1 ⟨x, H1, I1, r1, q1⟩ => ⟨σ, H1, I1, q1⟩) fun _ _ z => z) I.quiet hs
theorem psa_set {i : Nat} {x : Str} (hN : X.N.Nodup) (hi : X.N[i]? = some x) (hx : X.env.scope.names.lookup x = some .local) (he : PEAt X c e te) (hs : swapsWith e (some (.Name x pos')) pos.line X.env = pure false := by rfl) :
    PSAt X c (.Assign [.Name x pos'] e pos) (tAsg te (gName i)) := by
  refine ⟨fun pins s σ H D I h => ?_⟩
  refine ks_wpAt_Assign_Name (ks_wpAt_mono (he.run pins s σ H _ I h) (fun v s1 ⟨y, H1, I1, r1, q1⟩ => ?_) fun _ _ z => z) hs
  exact store_ok I1 hN hi (.inl hx) r1 (fun s2 I2 => ⟨_, H1, I2, q1⟩) (.inr hx)
end
/-- super().m(e, ..) of an instance of the class at C -/
def tSuper (C : Addr) (sp : Sp) (i : Nat) (t : TA) : TE := fun σ H Q => ∃ x dx fs, σ[i]? = some (some (.ref x)) ∧ H x = some (.ins C dx fs) ∧ t σ H fun vs H1 => sp (.ref x :: vs) H1 Q E0
/-- what the class at C, made below the class at D, tells of super().m -/
structure SupC (K : PySem.W.Frag) (mg : Str → Option Value) (C D : Addr) (m : Str) (f : Addr) : Prop where
  cls : ∃ cd, PySem.W.clsIn K D = some cd
  sub : PySem.W.mroIn K C (.ref D) = some true
  fnd : PySem.W.ks_superIn K C D m = some (some (.ref f))
  fn : PySem.W.isFn K (.ref f) = true
  fk : PySem.W.fnIn K f = true
  noOp : PySem.W.nsIn K cStatics "thirdparty.any" = some none
  gsup : mg "super" = none
section
variable {P : Program} {w : World} {K : PySem.W.Frag} {mg : Str → Option Value} {base : Heap} {N ps : List Str} {x qual : Str} {st : Stmt} {f fm cda cc C D : Addr} {fd fdm : FuncData} {A : Around} {outer : List Env} {s₀ : Shared} {H₀ : Hp} {E : XK} {m : Str} {psm : List Str} {sp : Sp} {k : Nat} {t : TA} {es : List Expr} {e : Expr} {p0 p1 apos pos : Pos} {a0 : Arg}
abbrev SX (P : Program) (w : World) (K : PySem.W.Frag) (mg : Str → Option Value) (base : Heap) (N : List Str) (x qual : Str) (st : Stmt) (cda cc f : Addr) (A : Around) (outer : List Env) (s₀ : Shared) (H₀ : Hp) : Cx :=
  (ncx CX0 P w K mg base N (nf x qual st cda cc) f A outer s₀ H₀ E0).nox
theorem pea_super {pl : Sem Bool} (U : Sup P K x qual st f fd cda cc D) (B : SupC K mg C D m fm) (F : FnOk P w K mg base CX0 k fm fdm psm sp) (hb : Binds K fdm psm []) (hr : Room k (SX P w K mg base N x qual st cda cc f A outer s₀ H₀).A)
    (hp : ((defArgs st).posonlyargs ++ (defArgs st).args).head? = some a0) (hN : N[0]? = some a0.arg) (hl0 : (defScope st).names.lookup a0.arg = some .local)
    (hks : (defScope st).names.lookup ("super" : Str) = some .globalImplicit) (hkc : (defScope st).names.lookup ("__class__" : Str) = some .free) (hk : (defScope st).kind = .function)
    (htop : (P.main.scope.names.lookup ("super" : Str)).isSome = false) (hat : (m == ("__class__" : Str)) = false)
    (ha : PA (SX P w K mg base N x qual st cda cc f A outer s₀ H₀) (e :: es) t)
    (he : starEach (e :: es) (SX P w K mg base N x qual st cda cc f A outer s₀ H₀).env = (false, eval e (SX P w K mg base N x qual st cda cc f A outer s₀ H₀).env) :: starEach es (SX P w K mg base N x qual st cda cc f A outer s₀ H₀).env)
    (hpl : (backTo pos (starEach es (SX P w K mg base N x qual st cda cc f A outer s₀ H₀).env)).any (·.1) = false)
    (ht : eval (.Call (.Attribute (.Call (.Name "super" p0) [] [] p1) m apos) (e :: es) [] pos) (SX P w K mg base N x qual st cda cc f A outer s₀ H₀).env = (do
      let ov ← attributeBase (.Call (.Name "super" p0) [] [] p1) m (SX P w K mg base N x qual st cda cc f A outer s₀ H₀).env (eval (.Call (.Name "super" p0) [] [] p1) (SX P w K mg base N x qual st cda cc f A outer s₀ H₀).env)
      standAt apos.atName
      let (fv, first) ← holding [ov] (getMethod ov m pl)
      callWith pos fv first (backTo pos (starEach (e :: es) (SX P w K mg base N x qual st cda cc f A outer s₀ H₀).env)) [])) :
    PEAt (SX P w K mg base N x qual st cda cc f A outer s₀ H₀) (.func (defBody st) (SX P w K mg base N x qual st cda cc f A outer s₀ H₀).env)
      (.Call (.Attribute (.Call (.Name "super" p0) [] [] p1) m apos) (e :: es) [] pos) (tSuper C sp 0 t) := by
  generalize hX : SX P w K mg base N x qual st cda cc f A outer s₀ H₀ = X at ha he hpl ht hr ⊢
  have xenv : X.env = PySem.W.ksEnv qual (defScope st) s₀.heap.objs.size f (.ref cda) cc := by subst hX; rfl
  have xK : X.K = K := by subst hX; rfl
  have xN : X.N = N := by subst hX; rfl
  have xP : X.prog = P := by subst hX; rfl
  have xw : X.w = w := by subst hX; rfl
  have xmg : X.mg = mg := by subst hX; rfl
  have xb : X.base = base := by subst hX; rfl
  refine ⟨fun pins s σ H Q I h => ?_⟩
  obtain ⟨x0, dx, fs, hσ, hx, q⟩ := h
  obtain ⟨oc, od, kV, doc, pm, ct, an, osl, efd, lk⟩ := U.ex
  obtain ⟨cl, cld, csl, lcell⟩ := U.cell
  obtain ⟨ccl, cdd, vs2, ccs, tf, lrow, hfile⟩ := U.row
  obtain ⟨cd, hcd⟩ := B.cls
  have KX : K.In s.heap := by rw [← xK]; exact I.kIn
  obtain ⟨oD, hD1, hD2⟩ : ∃ oD, s.heap.get? D = some oD ∧ oD.data = .cls cd := by
    have hcd' := hcd
    unfold PySem.W.clsIn at hcd'
    split at hcd'
    · rename_i c d cd' sl ho
      cases hcd'
      exact ⟨_, KX _ _ ho, rfl⟩
    · cases hcd'
  refine ks_wpAt_MethodCall (pl := pl) ?_ ht
  have hkS : X.env.kindOf "super" = some .globalImplicit := by rw [xenv]; exact hks
  have hkC : X.env.kindOf "__class__" = some .free := by rw [xenv]; exact hkc
  have hkf : X.env.scope.kind = .function := by rw [xenv]; exact hk
  have hfn : X.env.func = some f := by rw [xenv]
  have hcode : X.env.code = .ref cda := by rw [xenv]
  have hcl : X.env.cells.lookup ("__class__" : Str) = some cc := by rw [xenv]; rfl
  refine ks_wpAt_super_base (env := X.env) (f := f) (cc := cda) (fd := fd) (ar := a0) (vs := vs2) (file := P.main.file) (tf := tf) hkS hkC hat hfn (KX _ _ lk) rfl (by rw [efd]; exact hp) hcode (KX _ _ lrow) rfl hfile (by rw [xP]; exact beq_self_eq_true _) (by rw [xP]; exact htop) ?_
  obtain ⟨mb, hb1, hb2⟩ := I.mod.blt
  refine PySem.W.ks_loadName_global hkf hkS (PySem.Calls.loadGlobal_builtin (by rw [I.ok.glob]; exact I.mod.glob.keeps I.bk) (by rw [xmg]; exact B.gsup) (by rw [I.ok.blt]; exact hb1.keeps I.bk) ((hb2 _ (by decide)).trans (by decide +kernel)) ⟨rfl, ?_⟩)
  refine wpAny_loadName_free hkf hkC hcl ⟨_, KX _ _ lcell, rfl⟩ ?_
  obtain ⟨mm, hn, hlc⟩ := id I.loc
  obtain ⟨u, ru, lu⟩ := hlc 0 a0.arg (.ref x0) (by rw [xN]; exact hN) hσ (.inl (by rw [xenv]; exact hl0))
  obtain rfl : u = Value.ref x0 := ru
  have hk0 : X.env.kindOf a0.arg = some .local := by rw [xenv]; exact hl0
  have hm0 : mm a0.arg = some (.ref x0) := by
    rcases lu with ⟨_, z⟩ | ⟨z, _⟩
    · exact z
    · rw [hk0] at z
      rcases z with z | z <;> cases z
  refine wpAny_loadName_local hkf hk0 hn hm0 ?_
  obtain ⟨hh, g, d, tk, os⟩ := s
  refine ks_wpAny_isType_cls hD1 hD2 ⟨rfl, ?_⟩
  obtain ⟨mA, O, _⟩ := ins_get I.hok hx
  have hgx : hh.get? x0 = some (PySem.W.instObj C dx) := O.obj
  refine ks_wpAny_call_super hD1 hD2 hgx rfl (fun c z => nomatch z) (PySem.W.looks_mroIn KX B.sub) (fun h1 e1 k1 => ?_)
  have I1 : Inv X pins σ H ⟨h1, g, d, tk, os⟩ := I.kept (t' := tk) k1
  have KX1 : K.In h1 := KX.keeps k1
  obtain ⟨of, hof, hofc⟩ : ∃ of, h1.get? fm = some of ∧ of.cls = .type "function" := by
    have hfm := beq_iff_eq.mp B.fn
    have ht' : (K.lookup fm).map (·.cls) = some (.type "function") := hfm
    cases z : K.lookup fm with
    | none => rw [z] at ht'; cases ht'
    | some of => rw [z] at ht'; exact ⟨of, KX1 _ _ z, Option.some.inj ht'⟩
  have hfnd := B.fnd
  unfold PySem.W.ks_superIn at hfnd
  cases hcC : PySem.W.clsIn K C with
  | none => rw [hcC] at hfnd; cases hfnd
  | some cdC =>
    rw [hcC] at hfnd
    have hxC : x0 ≠ C := by
      intro z
      subst z
      have q1 := hcC
      unfold PySem.W.clsIn at q1
      split at q1
      · rename_i c d cd' sl ho
        have z1 := KX _ _ ho
        rw [hgx] at z1
        cases z1
      · cases q1
    refine ks_wpAny_getMethod_super e1 (PySem.W.looks_opaque KX1 B.noOp) (l₀ := cdC.mro) (fun A Q E s k q => wpAny_bind ((PySem.W.looks_clsIn KX1 hcC) A _ E s k (wpAny_pure q))) rfl KX1 hfnd hof hofc hxC hat ?_
    dsimp only
    generalize hq0 : h1.objs.size = q0
    have eq0 : (h1.push (PySem.W.methodObj (.ref fm) (.ref x0))).get? q0 = some (PySem.W.methodObj (.ref fm) (.ref x0)) := by rw [← hq0]; exact Heap.get?_push_at rfl rfl
    have nq : H q0 = none := I1.hok.fresh (Nat.le_of_eq hq0)
    have I2 : Inv X pins σ H ⟨h1.push (PySem.W.methodObj (.ref fm) (.ref x0)), g, d, tk + 1, os⟩ := I1.kept (t' := tk + 1) fun b o e => Heap.get?_push_of_some _ e
    have fp := I1.fpOk (Nat.le_of_eq hq0) nq
    have I3 : Inv X (pins ++ [(q0, PySem.W.methodObj (.ref fm) (.ref x0))]) σ H ⟨h1.push (PySem.W.methodObj (.ref fm) (.ref x0)), g, d, tk + 1, os⟩ := I2.pins_of fun p hp => by
      rcases List.mem_append.mp hp with z | z
      · exact I2.pin p (List.mem_append_right _ z)
      · rw [List.mem_singleton.mp z]
        exact ⟨eq0, nq, fp.2.1, fp.2.2.1, fun v z => nomatch z⟩
    rw [he]
    refine PySem.W.callWith_of (P := fun h => PySem.W.MethP K q0 fm (.ref x0) h) (by show ((false || (backTo pos (starEach es X.env)).any (·.1)) || false) = false; rw [hpl]; rfl) (PySem.W.keeps_M B.fk) (PySem.Calls.evalArgs_plain ?_)
    have hsp : ∀ R, wpAny (model X.prog X.w) X.A (spliced (backTo pos (starEach (e :: es) X.env))) R X.xe _ → wpAny (model X.prog X.w) X.A (spliced ((false, eval e X.env) :: backTo pos (starEach es X.env))) R X.xe ⟨h1.push (PySem.W.methodObj (.ref fm) (.ref x0)), g, d, tk + 1, os⟩ := fun R z => by
      rw [he] at z
      exact z
    refine hsp _ (thn (ha.run pos _ _ σ H _ I3 q) fun us s3 ⟨vs, H3, I4, rv, q4⟩ => ?_)
    have hq3 := (I4.pin (q0, PySem.W.methodObj (.ref fm) (.ref x0)) (List.mem_append_right _ (List.mem_append_right _ (List.mem_singleton.mpr rfl)))).1
    have KX3 : K.In s3.heap := by rw [← xK]; exact I4.kIn
    refine ⟨⟨hq3, KX3⟩, ?_⟩
    have I5 : Inv X pins σ H3 s3 := I4.unpinned
    have r2 : Vals (V.ref x0 :: vs) (Value.ref x0 :: us) := .cons rfl rv
    have hlen : ((Value.ref x0 :: us) ++ []).length = psm.length := by
      rw [List.append_nil, ← r2.length]
      exact F.len _ _ _ _ q4
    have hbb := hb s3 (Value.ref x0 :: us) KX3 hlen
    rw [List.append_nil] at hbb
    have e0 := I5.env0
    rw [xP, xw, xK, xmg, xb] at e0
    rw [xP, xw]
    refine wpAny_call (ks_codeAny_call_bound hq3 (codeAny_mono (F.run X.A X.stack s3 H3 ⟨Value.ref x0 :: us, []⟩ (Value.ref x0 :: us) (V.ref x0 :: vs) Q E0 hr e0 hbb r2 q4) fun r s' hr' => ?_))
    cases r with
    | error z => exact (show False from hr').elim
    | ok fl =>
      cases fl with
      | ret u =>
        have hr'' : CE X.stack P w H3 s3 Q u s' := hr'
        rw [← xP, ← xw] at hr''
        exact I5.after hr''
      | next => exact False.elim hr'
      | brk => exact False.elim hr'
      | cont => exact False.elim hr'
/-- THE RULE for such a method -/
theorem Sup.ok (U : Sup P K x qual st f fd cda cc D) (S : NScope N ps ["__class__"] (defScope st)) (hbind : ∀ (kV doc pm ct : Value) (an : Option Addr) (us : List Value), us.length = ps.length → bindArgs (PySem.W.ksFn x qual (defArgs st) (defBody st) (defScope st) .none kV doc pm an (.ref cda) ct cc) ⟨us, []⟩ = pure (ps.zip us))
    (len : ∀ vs H Q E, sp vs H Q E → vs.length = ps.length)
    (hbody : ∀ (A : Around) (outer : List Env) (s : Shared) (H : Hp) (vs : List V) (Q : VK) (E : XK), Room k (SX P w K mg base N x qual st cda cc f A outer s H).A → sp vs H Q E →
      ∃ t, PSsAt (SX P w K mg base N x qual st cda cc f A outer s H) (.func (defBody st) (SX P w K mg base N x qual st cda cc f A outer s H).env) (defBody st) t ∧ t { nx := fun _ H' => Q .non H', rt := Q } (startF N vs [some (.ref D)]) H) :
    FnOk P w K mg base CX0 (k + 1) f fd ps sp ∧ Binds K fd ps [] := by
  obtain ⟨oc, od, kV, doc, pm, ct, an, osl, rfl, lk⟩ := U.ex
  obtain ⟨cl, cld, csl, lcell⟩ := U.cell
  refine ⟨⟨len, fun A outer s H args us vs Q E hr e0 hb r hsp => ?_⟩, .all fun us hl => hbind kV doc pm ct an us hl⟩
  have hl := len _ _ _ _ hsp
  have KX : K.In s.heap := e0.mod.kin.keeps fun b o e => (e0.bs b o e).1
  have lim : s.heap.NoLimit := e0.mod.nolimit.keeps fun b o e => (e0.bs b o e).1
  refine codeAny_call_function hr.depth (KX _ _ lk) rfl S.co S.gen rfl (PySem.W.codeRec_of KX U.code) (hb _ _ _ _ ?_)
  refine wpAny_newFunctionEnv S.nocell (fun ⟨n, _⟩ hy => S.par n (List.of_mem_zip hy).1) (fun h₁ hns hsb => ⟨lim.fresh _ hsb, ?_⟩) S.kind
  show codeAny _ _ (.func (defBody st) (envF (nf x qual st cda cc) f s.heap.objs.size)) _ _
  refine ks_codeAny_funcAt ?_
  have kp : ∀ b o, s.heap.get? b = some o → h₁.get? b = some o := fun b o e => hsb.extBut b o (Nat.ne_of_lt (Heap.lt_size e)) (Heap.get?_push_of_some _ e)
  obtain ⟨t, ht, hq⟩ := hbody A outer s H vs Q E (hr.deeper _) hsp
  have C : CellsAt (nf x qual st cda cc).cl ["__class__"] [some (V.ref D)] s.heap H := by
    have z0 : ∀ y c, ([("__class__", cc)] : List (Str × Addr)).lookup y = some c → y = "__class__" ∧ c = cc := fun y c e => by
      by_cases hy : y = "__class__"
      · subst hy
        simp [List.lookup] at e
        exact ⟨rfl, e.symm⟩
      · have hb : (y == ("__class__" : Str)) = false := beq_eq_false_iff_ne.mpr hy
        simp [List.lookup, hb] at e
    have z1 := e0.bs cc _ (e0.mod.kin _ _ lcell)
    refine ⟨rfl, fun y c e => ?_, fun y z c e1 e2 => by rw [(z0 y c e1).1, (z0 z c e2).1], fun i y e => ?_⟩
    · obtain ⟨_, rfl⟩ := z0 y c e
      exact ⟨z1.2, _, ⟨_, z1.1, rfl⟩⟩
    · cases i with
      | zero =>
        have e' : "__class__" = y := Option.some.inj e
        subst e'
        refine ⟨cc, rfl, fun v hv => ?_⟩
        have hv' : V.ref D = v := Option.some.inj (Option.some.inj hv)
        subst hv'
        exact ⟨_, rfl, ⟨_, z1.1, rfl⟩⟩
      | succ i => simp at e
  have I : Inv (ncx CX0 P w K mg base N (nf x qual st cda cc) f A outer s H E0) [] (startF N vs [some (.ref D)]) H { s with heap := h₁, toks := s.toks + (ps.zip us).length } := inv_startN S hr.hd e0 hl r C hns kp
  have I' : Inv (SX P w K mg base N x qual st cda cc f A outer s H) [] (startF N vs [some (.ref D)]) H { s with heap := h₁, toks := s.toks + (ps.zip us).length } := I.wish _
  refine ks_wpAt_mono (ht.run [] _ (startF N vs [some (.ref D)]) H _ I' hq) (fun fl s' hs => ?_) fun e s' hs => False.elim hs
  have fin : ∀ {σ' : L2.St} {H' : Hp} {v : V} {u : Value}, Inv (SX P w K mg base N x qual st cda cc f A outer s H) [] σ' H' s' → L2.RelV v u → Q v H' → CE outer P w H s Q u s' :=
    fun {σ' H' v u} J rv q => ⟨v, H', J.os, J.bare, J.base, J.hok, rv, q⟩
  cases fl with
  | ret u =>
    obtain ⟨v, σ', H', J, rv, q⟩ := hs
    exact fin J rv q
  | next =>
    obtain ⟨σ', H', J, q⟩ := hs
    exact fin (v := V.non) (u := Value.none) J rfl q
  | brk =>
    obtain ⟨_, _, _, q⟩ := hs
    exact False.elim q
  | cont =>
    obtain ⟨_, _, _, q⟩ := hs
    exact False.elim q
end
end Dl

namespace Dl
open PySem PySem.Spec PyProof.Rows L2
/-! ### a class whose __iter__ says «return iter(self.FIELD)», the field a list -/
/-- what the text tells of the class at C: its __iter__, its __len__ -/
structure ItB (K : PySem.W.Frag) (mg : Str → Option Value) (C : Addr) (fi : Addr) (fdi : FuncData) (st : Stmt) : Prop where
  cl : Cls K C
  na : NoAttr K C "records"
  it : PySem.W.findIn K (.ref C) "__iter__" = some (some (.ref fi))
  itF : PySem.W.isFn K (.ref fi) = true
  F : Fun K "__iter__" "SalesBook.__iter__" st fi fdi
  S : FnScope ["self"] ["self"] (defScope st)
  b : Binds K fdi ["self"] []
  gi : mg "iter" = none
section
variable {P : Program} {w : World} {K : PySem.W.Frag} {mg : Str → Option Value} {base : Heap} {C fi : Addr} {fdi : FuncData} {st : Stmt}
theorem iter_call {A : Around} {outer : List Env} {s : Shared} {H : Hp} {a l dx : Addr} {fs : List (Str × V)} {xs : List V} {pi pa pc p1 p2 : Pos} (B : ItB K mg C fi fdi st) (hst : defBody st = [.Return (some (.Call (.Name "iter" pi) [.Attribute (.Name "self" p1) "records" pa] [] pc)) p2])
    (hg : (defScope st).names.lookup ("iter" : Str) = some .globalImplicit) (hls : (defScope st).names.lookup ("self" : Str) = some .local)
    (hr : Room 1 A) (e0 : Env0 P w K mg base A outer s H) (ha : H a = some (.ins C dx fs)) (hf : fs.lookup ("records" : Str) = some (.ref l)) (hl : H l = some (.lst xs)) :
    codeAny (model P w) A (.call (.ref fi) ⟨[.ref a], []⟩) (fun r s' => ∃ it, r = .ok (.ret (.ref it)) ∧ s.heap.objs.size ≤ it ∧ s'.heap.IsListIter it l 0 ∧ H it = none ∧ s'.os = s.os ∧ AllBare s'.gens ∧ Un (frs outer) [] H H s.heap s'.heap ∧ HOk P w H s'.heap) s := by
  have S := B.S
  have hb := B.b
  have kp := B.F.kp
  obtain ⟨oc, od, kV, doc, pm, an, cdv, ct, osl, rfl, lk, hcd⟩ := B.F.ex
  have KX : K.In s.heap := e0.mod.kin.keeps fun b o e => (e0.bs b o e).1
  have lim : s.heap.NoLimit := e0.mod.nolimit.keeps fun b o e => (e0.bs b o e).1
  have rv : Vals [V.ref a] [Value.ref a] := .cons rfl .nil
  have hbb := hb s [.ref a] KX rfl
  rw [List.append_nil] at hbb
  refine codeAny_call_function hr.depth (KX _ _ lk) rfl S.co S.gen rfl (PySem.W.codeRec_of KX hcd) (hbb _ _ _ _ ?_)
  refine wpAny_newFunctionEnv_cells S.kind (fun y hy => ?_) fun env he s1 x => ?_
  · have hy' : y = (("self" : Str), Value.ref a) := by simpa using hy
    rw [hy']
    exact .inl hls
  subst he
  refine ⟨lim.keeps x.toInCall.keep, codeAny_func ?_⟩
  have I : Inv (cxOf CX0 P w K mg base ["self"] "SalesBook.__iter__" (defScope st) fi cdv A outer s H E0) [] (start ["self"] [.ref a]) H s1 := inv_start S hr.hd e0 rfl rv x
  have I : Inv (cxOf CX0 P w K mg base ["self"] "SalesBook.__iter__" (defScope st) fi cdv A outer s H E0).nox [] (start ["self"] [.ref a]) H s1 := I.wish _
  generalize hX : (cxOf CX0 P w K mg base ["self"] "SalesBook.__iter__" (defScope st) fi cdv A outer s H E0).nox = X at I
  suffices key : wpAny (model X.prog X.w) X.A (execs (defBody st) X.env) (fun f s' => ∃ it, f = .ret (.ref it) ∧ s.heap.objs.size ≤ it ∧ s'.heap.IsListIter it l 0 ∧ H it = none ∧ s'.os = s.os ∧ AllBare s'.gens ∧ Un (frs outer) [] H H s.heap s'.heap ∧ HOk P w H s'.heap) (fun _ _ => False) s1 by
    subst hX
    refine wpAny_mono key (fun f s' hs => ?_) fun _ _ z => z.elim
    obtain ⟨it, rfl, q⟩ := hs
    exact ⟨it, rfl, q⟩
  rw [hst]
  have xenv : X.env = envOfC "SalesBook.__iter__" (defScope st) s.heap.objs.size fi cdv := by subst hX; rfl
  have xP : X.prog = P := by subst hX; rfl
  have xw : X.w = w := by subst hX; rfl
  have xxe : X.xe = fun _ _ => False := by subst hX; rfl
  have xK : X.K = K := by subst hX; rfl
  have xmg : X.mg = mg := by subst hX; rfl
  have xN : X.N = ([("self" : Str)] : List Str) := by subst hX; rfl
  have xs0 : X.s_0 = s := by subst hX; rfl
  have xH0 : X.H_0 = H := by subst hX; rfl
  have xfs : X.fs = frs outer := by subst hX; rfl
  have xex : X.ex = [] := by subst hX; rfl
  have hvis : Vis X.env.scope "self" := .inl (by rw [xenv]; exact hls)
  have hgl : Gl X "iter" := by
    show X.env.scope.names.lookup _ = _
    rw [xenv]
    exact hg
  have pe1 : PE X (.Name "self" p1) (tVar 0) := pe_var (by rw [xN]; rfl) hvis
  have pe2 : PE X (.Attribute (.Name "self" p1) "records" pa) (tFld X.K (tVar 0) "records") := pe_fld pe1 rfl
  have pa1 : PA X [.Attribute (.Name "self" p1) "records" pa] (tCons (tFld X.K (tVar 0) "records") tNil) := pa_cons pe2 pa_nil
  have bi : bootBuiltins "iter" = some (.builtin "iter") := by decide +kernel
  rw [← xxe]
  refine wpAny_execs_cons (wpAny_Return_some (wpAny_Call_Name_kw (ld_blt I hgl (by rw [xmg]; exact B.gi) bi ?_)))
  refine PyProof.Rows.callWith_builtin1 (thn (pa1.run pc [] s1 (start ["self"] [.ref a]) H (fun vs H1 => vs = [.ref l] ∧ H1 = H) I ⟨_, rfl, a, C, dx, fs, _, rfl, ha, by rw [xK]; exact B.cl, by rw [xK]; exact B.na, hf, rfl, rfl⟩) fun us s2 ⟨vs, H1, I2, r2, q1, q2⟩ => ?_) rfl rfl
  subst q1
  rw [q2] at I2
  obtain ⟨u, rfl, ru⟩ := r2.one
  cases ru
  obtain ⟨its, rvl, pl, _⟩ := I2.list (SqL.of hl)
  refine GNX.call_iter pl.isList ?_
  have I3 : Inv X [] (start ["self"] [.ref a]) H { s2 with heap := s2.heap.push (GNX.itObj l 0) } := I2.kept (t' := s2.toks) fun b o e => Heap.get?_push_of_some _ e
  have hb0 := I3.base
  have ho0 := I3.os
  have hk0 := I3.hok
  rw [xfs, xex, xs0, xH0] at hb0
  rw [xs0] at ho0
  rw [xP, xw] at hk0
  have hsz := I2.sz
  rw [xs0] at hsz
  exact ⟨_, rfl, hsz, ⟨_, Heap.get?_push_size _ rfl, rfl, rfl⟩, I2.hok.fresh (Nat.le_refl _), ho0, I3.bare, hb0, hk0⟩
end
section
variable {X : Cx} {C fi : Addr} {fdi : FuncData} {st : Stmt} {pi pa pc p1 p2 : Pos}
/-- what the rules below ask of __iter__'s text -/
structure ItT (st : Stmt) : Prop where
  body : ∃ pi pa pc p1 p2, defBody st = [.Return (some (.Call (.Name "iter" pi) [.Attribute (.Name "self" p1) "records" pa] [] pc)) p2]
  gi : (defScope st).names.lookup ("iter" : Str) = some .globalImplicit
  ls : (defScope st).names.lookup ("self" : Str) = some .local
theorem pyIter_own {pins : List (Addr × Obj)} {σ : L2.St} {H : Hp} {s : Shared} {A1 : Around} {a l dx : Addr} {fs : List (Str × V)} {xs : List V} {Q : Value → Shared → Prop} (B : ItB X.K X.mg C fi fdi st) (T : ItT st) (sb : Sub X 1 A1)
    (I : Inv X pins σ H s) (ha : H a = some (.ins C dx fs)) (hf : fs.lookup ("records" : Str) = some (.ref l)) (hl : H l = some (.lst xs))
    (h : ∀ it s', Inv X pins σ H s' → s'.heap.IsListIter it l 0 → FpOk X pins H it → Q (.ref it) s') : wpAny (model X.prog X.w) A1 (pyIter (.ref a)) Q X.xe s := by
  obtain ⟨mA, O, _⟩ := ins_get I.hok ha
  obtain ⟨od, J, _⟩ := O.look
  obtain ⟨m, hF⟩ := I.fr
  refine PySem.W.owit_iter hF I.ok.mod.kin J B.it B.itF ?_
  obtain ⟨pi, pa, pc, p1, p2, hst⟩ := T.body
  have e0 : Env0 X.prog X.w X.K X.mg X.base A1 X.stack s H := by
    have e := I.env0
    exact ⟨by rw [sb.fr]; exact e.frames, e.mod, e.bs, e.bsz, e.funs, e.frf, e.hok, e.bare⟩
  refine wpAny_call (codeAny_mono (iter_call B hst T.gi T.ls sb.room e0 ha hf hl) fun r s' hq => ?_)
  obtain ⟨it, rfl, hsz, hit, hn, hos, hbare, hun, hok⟩ := hq
  have I' : Inv X pins σ H s' := I.call' (ch := []) hos hun hok hbare (fun b z => absurd z (by simp))
  have hT : s'.TypeIs (.ref it) "list_iterator" := hit.typeIs
  show PySem.W.OwitIt _ _ _ _ _ _
  unfold PySem.W.OwitIt
  refine wpAny_specialOf hT slot_listiter_next.lookup ?_
  exact h it s' I' hit (I.fpOk hsz hn)
/-- for x in o: the list in the field is walked -/
def iOwn (C : Addr) (K : PySem.W.Frag) (tl : TE) : TI := fun σ H R => tl σ H fun x H1 => ∃ a dx fs l xs, x = .ref a ∧ H1 a = some (.ins C dx fs) ∧ fs.lookup ("records" : Str) = some (.ref l) ∧ H1 l = some (.lst xs) ∧ R (Itl K l) H1
theorem pi_own {tg e : Expr} {tl : TE} (B : ItB X.K X.mg C fi fdi st) (T : ItT st) (hr : Room 1 X.A) (hl : PE X e tl) : PI X tg e (iOwn C X.K tl) := by
  refine ⟨fun pins s σ H R I h => ?_⟩
  refine thn (hl.run pins s σ H _ I h) fun v s1 ⟨x, H1, I1, r1, q1⟩ => ?_
  obtain ⟨a, dx, fs, l, xs, rfl, ha, hf, hll, q⟩ := q1
  cases r1
  refine pyIter_own B T ⟨hr, rfl⟩ I1 ha hf hll fun it s' I' hit fp => ?_
  refine ⟨it, [it], _, _, H1, rfl, I', turn_list l it, hit, fun b hb => ?_, q⟩
  have e : b = it := by simpa using hb
  rw [e]
  exact fp
end

/-! ### list(o) -/
section
variable {X : Cx} {C fi : Addr} {fdi : FuncData} {st : Stmt}
theorem list_loop {pins : List (Addr × Obj)} {σ : L2.St} {A1 : Around} {q it l : Addr} {xs : List V} {H0 : Hp} {Rs : Result → Shared → Prop} (hA : A1.handled = none) (hl : H0 l = some (.lst xs)) (hq0 : H0 q = none) (fp : FpOk X pins H0 it) (hqi : q ≠ it)
    (hdone : ∀ s, Inv X pins σ (upd H0 q (.lst xs)) s → Rs (.ok (.ret .none)) s) :
    ∀ (m i : Nat), m = xs.length - i → i ≤ xs.length → ∀ s, Inv X pins σ (upd H0 q (.lst (xs.take i))) s → s.heap.IsListIter it l i → codeAny (model X.prog X.w) A1 (.builtin "list.extend.loop" ⟨[.ref q, .ref it, .none], []⟩) Rs s := by
  obtain ⟨f0, f1, f2, f3, f4, f5⟩ := fp
  have hlq : l ≠ q := ne_of_none hl hq0
  intro m
  induction m with
  | zero =>
    intro i hm hi s I hit
    have e : i = xs.length := by omega
    subst e
    have hl' : upd H0 q (.lst (xs.take xs.length)) l = some (.lst xs) := by rw [upd_ne hlq]; exact hl
    obtain ⟨its, rv, p, hz⟩ := I.list (SqL.of hl')
    have hlen := rv.length
    refine codeAny_builtin PySem.F.entry_extend_loop ?_
    rw [Around.under_plainId PySem.F.plain_extend_loop _]
    show wpAny _ A1.in1 (pyNext (.ref it) >>= _) _ _ s
    have hn : upd H0 q (.lst (xs.take xs.length)) it = none := by rw [upd_ne (Ne.symm hqi)]; exact f0
    refine wpAny_bind (wpAny_pyNext_list_end hA hit p.isList (by simp; omega) fun h' eb => ?_)
    have I1 : Inv X pins σ (upd H0 q (.lst (xs.take xs.length))) { s with heap := h' } := I.turned (t' := s.toks) (fun b o hb e => eb b o hb e) hn f1 f3 f4 f5
    rw [List.take_length] at I1
    exact wpAny_pure (hdone _ I1)
  | succ m ih =>
    intro i hm hi s I hit
    have hlt : i < xs.length := by omega
    have hl' : upd H0 q (.lst (xs.take i)) l = some (.lst xs) := by rw [upd_ne hlq]; exact hl
    obtain ⟨its, rv, p, hz⟩ := I.list (SqL.of hl')
    have hlen := rv.length
    obtain ⟨u, hu, ru⟩ := rv.get (List.getElem?_eq_getElem hlt)
    refine codeAny_builtin PySem.F.entry_extend_loop ?_
    rw [Around.under_plainId PySem.F.plain_extend_loop _]
    show wpAny _ A1.in1 (pyNext (.ref it) >>= _) _ _ s
    have hn : upd H0 q (.lst (xs.take i)) it = none := by rw [upd_ne (Ne.symm hqi)]; exact f0
    refine wpAny_bind (wpAny_pyNext_list_item hit p.isList (x := u) (by simpa using hu) fun h' hit' sb => ?_)
    have I1 : Inv X pins σ (upd H0 q (.lst (xs.take i))) { s with heap := h' } := I.turned (t' := s.toks) (fun b o hb e => (sb.2 b hb).trans e) hn f1 f3 f4 f5
    obtain ⟨z, its2, k, r2, hl2, e2⟩ := I1.lstM upd_same
    show wpAny _ A1.in1 (updateSeq q (·.push u) >>= _) _ _ _
    have hti : (xs.take i).length = i := by rw [List.length_take]; omega
    refine wpAny_bind (wpAny_updateSeq e2 rfl (wpAny_pure ⟨plainId_quiet PySem.F.plain_extend_loop _, ?_⟩) (by rw [List.size_toArray]; omega) (by show (its2.toArray.push u).size ≤ sizeLine + 1; rw [Array.size_push, List.size_toArray]; omega))
    have I2 := I1.lset (f := (·.push u)) (its' := its2 ++ [u]) (ys := xs.take i ++ [xs[i]]) (t' := s.toks) upd_same e2 (by simp) (r2.append (.cons ru .nil)) (by rw [List.length_append, List.length_singleton, hti]; omega)
    rw [upd_upd, ← List.take_succ_eq_append_getElem hlt] at I2
    refine ih (i + 1) (by omega) hlt _ I2 ?_
    refine hit'.at fun o e => ?_
    exact (Heap.get?_update_other _ _ hqi).trans e
end
end Dl

namespace Dl
open PySem PySem.Spec PyProof.Rows L2
/-- what __len__ promises -/
def spLenB (C : Addr) : Sp := fun vs H Q _ => ∃ (a dx : Addr) (fs : List (Str × V)) (l : Addr) (xs : List V), vs = [.ref a] ∧ H a = some (.ins C dx fs) ∧ fs.lookup ("records" : Str) = some (.ref l) ∧ H l = some (.lst xs) ∧ Q (.int xs.length) H
section
variable {X : Cx} {C fi fL : Addr} {fdi fdL : FuncData} {st : Stmt}
theorem len_hint {pins : List (Addr × Obj)} {σ : L2.St} {H : Hp} {s : Shared} {A1 : Around} {a l dx : Addr} {fs : List (Str × V)} {xs : List V} {Q : Bool → Shared → Prop} (hs : PySem.W.findIn X.K (.ref C) "__len__" = some (some (.ref fL))) (hf : PySem.W.isFn X.K (.ref fL) = true)
    (FL : FnOk X.prog X.w X.K X.mg X.base CX0 1 fL fdL ["self"] (spLenB C)) (bL : Binds X.K fdL ["self"] []) (sb : Sub X 2 A1)
    (I : Inv X pins σ H s) (ha : H a = some (.ins C dx fs)) (hfd : fs.lookup ("records" : Str) = some (.ref l)) (hl : H l = some (.lst xs)) (hz : xs.length ≤ 1000) (h : ∀ b s', Inv X pins σ H s' → (∀ b o, s.heap.get? b = some o → H b = none → b ∉ frs X.stack → s'.heap.get? b = some o) → Q b s') :
    wpAny (model X.prog X.w) A1 (Builtin.List.listLengthHint (.ref a)) Q X.xe s := by
  obtain ⟨mA, O, _⟩ := ins_get I.hok ha
  obtain ⟨od, J, _⟩ := O.look
  obtain ⟨m, hF⟩ := I.fr
  unfold Builtin.List.listLengthHint
  refine wpAny_bind (wpAny_bind (J.type.here ((PySem.W.looks_findIn I.kIn hs).here ?_)))
  show wpAny _ _ _ _ _ _
  refine PySem.W.KFB.if_not rfl ?_
  refine PySem.W.KFB.if_so rfl ?_
  refine wpAny_bind (wpAny_rule ?_)
  refine wpAny_bind (wpAny_attempt ?_)
  refine PySem.W.len_K hF I.ok.mod.kin J hs hf ?_
  have e0 : Env0 X.prog X.w X.K X.mg X.base A1.in1 X.stack s H := by
    have e := I.env0
    exact ⟨by show A1.frames = _; rw [sb.fr]; exact e.frames, e.mod, e.bs, e.bsz, e.funs, e.frf, e.hok, e.bare⟩
  have hsp : spLenB C [.ref a] H (fun v H' => v = .int xs.length ∧ H' = H) E0 := ⟨a, dx, fs, l, xs, rfl, ha, hfd, hl, rfl, rfl⟩
  have r2 : Vals [V.ref a] [Value.ref a] := .cons rfl .nil
  have hbb := bL s [.ref a] I.kIn rfl
  rw [List.append_nil] at hbb
  refine wpAny_call (codeAny_mono (FL.run A1.in1 X.stack s H ⟨[.ref a], []⟩ [.ref a] [.ref a] _ E0 sb.room.in1 e0 hbb r2 hsp) fun r s' hq => ?_)
  cases r with
  | error z => exact (show False from hq).elim
  | ok fl =>
    cases fl with
    | next => exact False.elim hq
    | brk => exact False.elim hq
    | cont => exact False.elim hq
    | ret u =>
      have hq' : CE X.stack X.prog X.w H s _ u s' := hq
      have kept : ∀ b o, s.heap.get? b = some o → H b = none → b ∉ frs X.stack → s'.heap.get? b = some o := fun b o e n hb => by
        obtain ⟨v, H', _, _, un, _⟩ := hq'
        exact un.keep b o e n hb (by simp)
      obtain ⟨v, H', I', rv, ev, eH⟩ := I.after hq'
      rw [ev] at rv
      rw [eH] at I'
      obtain ⟨t, rfl⟩ := rv
      show (0 ≤ ((xs.length : Nat) : Int) ∧ ((xs.length : Nat) : Int) < 2 ^ 63) ∧ _
      refine ⟨⟨by omega, by omega⟩, ?_⟩
      have hlong : ¬ (Builtin.List.listTooLong ((xs.length : Nat) : Int).toNat = true) := by
        rw [Int.toNat_natCast]
        unfold Builtin.List.listTooLong
        have e : sizeLine = 16777216 := sizeLine_eq
        simp only [decide_eq_true_eq]
        omega
      refine wpAny_bind (m := asInt? (Value.int ((xs.length : Nat) : Int) s'.toks)) (wpAny_pure ?_)
      show wpAny _ _ (if Builtin.List.listTooLong ((xs.length : Nat) : Int).toNat = true then _ else pure _) _ _ _
      rw [if_neg hlong]
      exact wpAny_pure (h _ _ (I'.tok _) kept)
/-- list(o) -/
theorem call_listB (B : ItB X.K X.mg C fi fdi st) (T : ItT st) (hs : PySem.W.findIn X.K (.ref C) "__len__" = some (some (.ref fL))) (hf : PySem.W.isFn X.K (.ref fL) = true)
    (FL : FnOk X.prog X.w X.K X.mg X.base CX0 1 fL fdL ["self"] (spLenB C)) (bL : Binds X.K fdL ["self"] []) (hr : Room 6 X.A) :
    CallR X (.type "list") (fun vs H Q => ∃ (a dx : Addr) (fs : List (Str × V)) (l : Addr) (xs : List V), vs = [.ref a] ∧ H a = some (.ins C dx fs) ∧ fs.lookup ("records" : Str) = some (.ref l) ∧ H l = some (.lst xs) ∧ xs.length ≤ 1000 ∧ ∀ q, H q = none → Q (.ref q) (upd H q (.lst xs))) := by
  intro pins s σ H vs us Q I rv h
  obtain ⟨a, dx, fs, l, xs, rfl, ha, hfd, hl, hz, hq⟩ := h
  obtain ⟨u, rfl, ru⟩ := rv.one
  cases ru
  have sb : Sub X 2 X.A.in1.in1 := ⟨(hr.mono (by decide : 4 ≤ 6)).in1.in1, rfl⟩
  refine callType_codes (Q₁ := fun obj s₁ => obj = .ref s.heap.objs.size ∧ s₁ = { s with heap := s.heap.push { cls := .type "list", data := .seq #[] } }) PySem.F.called_list (PySem.F.typeCall_list_1 _) PySem.F.entry_list_init
    (code_list_new _ ⟨rfl, rfl⟩) fun obj s₁ h₁ => ?_
  obtain ⟨rfl, rfl⟩ := h₁
  have hS : (s.heap.push { cls := .type "list", data := .seq #[] }).get? s.heap.objs.size = some { cls := .type "list", data := .seq #[] } := Heap.get?_push_size _ rfl
  refine ⟨⟨_, hS, rfl⟩, PySem.F.args_list_init_2 _ _, ?_⟩
  have fr : H s.heap.objs.size = none := I.hok.fresh (Nat.le_refl _)
  generalize hQ0 : s.heap.objs.size = q0 at fr hS ⊢
  have I1 : Inv X pins σ (upd H q0 (.lst [])) { s with heap := s.heap.push { cls := .type "list", data := .seq #[] } } := by
    rw [← hQ0]
    exact I.lnew (its := []) (t' := s.toks) .nil (Nat.zero_le _)
  show wpAny _ _ (do let old ← Builtin.List.listItems (.ref q0); Builtin.List.listUpdate (.ref q0) (fun _ => #[]); letGo old.toList.reverse; Builtin.List.listExtendWith (.ref q0) (.ref a) .none) _ _ _
  refine wpAny_bind ?_
  unfold Builtin.List.listItems
  refine wpAny_bind (wpAny_seqItems hS rfl (wpAny_pure ?_))
  show wpAny _ _ (updateSeq q0 (fun _ => #[]) >>= fun _ => letGo (#[] : Array Value).toList.reverse >>= fun _ => Builtin.List.listExtendWith (.ref q0) (.ref a) .none) _ _ _
  refine wpAny_bind (wpAny_updateSeq hS rfl ?_)
  have I2 := I1.lset (f := fun _ => #[]) (its := []) (its' := []) (ys := []) (t' := s.toks) upd_same hS rfl .nil (Nat.zero_le _)
  rw [upd_upd] at I2
  refine wpAny_bind (wpAny_letGo ?_)
  have hqa : q0 ≠ a := (ne_of_none ha fr).symm
  have hql : q0 ≠ l := (ne_of_none hl fr).symm
  have ha2 : upd H q0 (.lst []) a = some (.ins C dx fs) := by rw [upd_ne (Ne.symm hqa)]; exact ha
  have hl2 : upd H q0 (.lst []) l = some (.lst xs) := by rw [upd_ne (Ne.symm hql)]; exact hl
  obtain ⟨mA, O, _⟩ := ins_get I2.hok ha2
  obtain ⟨od, J, _⟩ := O.look
  unfold Builtin.List.listExtendWith
  refine wpAny_bind (J.type.here ?_)
  have h1 : Builtin.List.listSameRef (.ref q0) (.ref a) = false := by simp [Builtin.List.listSameRef, hqa]
  have h2 : (Value.ref C == Value.type "list") = false := rfl
  have h3 : (Value.ref C == Value.type "tuple") = false := rfl
  simp only [h1, h2, h3, Bool.or_false, Bool.false_eq_true, if_false]
  refine wpAny_bind (pyIter_own B T ⟨sb.room.mono (by decide), sb.fr⟩ I2 ha2 hfd hl2 fun it s' I' hit fp => ?_)
  refine wpAny_bind (wpAny_holding (len_hint hs hf FL bL sb I' ha2 hfd hl2 hz fun b s2 I3 kept => ?_))
  have hit2 : s2.heap.IsListIter it l 0 := by
    obtain ⟨o, e, c, d⟩ := hit
    refine ⟨o, kept it o e fp.1 fun z => ?_, c, d⟩
    rcases List.mem_cons.mp (I'.stkSub it z) with q | q
    · exact fp.2.1 q
    · exact fp.2.2.1 q
  have hqi : q0 ≠ it := fun z => by
    have := fp.1
    rw [← z, upd_same] at this
    cases this
  have fp0 : FpOk X pins H it := ⟨by have := fp.1; rw [upd_ne (Ne.symm hqi)] at this; exact this, fp.2⟩
  have fin : ∀ s3, Inv X pins σ (upd H q0 (.lst [])) s3 → s3.heap.IsListIter it l 0 → codeAny (model X.prog X.w) X.A.in1 (.builtin "list.extend.loop" ⟨[.ref q0, .ref it, .none], []⟩) (wants (fun r s₂ => r = .none ∧ EP X pins σ Q (.ref q0) s₂) X.xe) s3 := fun s3 I4 hit3 =>
    list_loop (A1 := X.A.in1) hr.hd hl fr fp0 hqi (fun s4 I5 => ⟨rfl, .ref q0, _, I5, rfl, hq q0 fr⟩) xs.length 0 rfl (Nat.zero_le _) s3 (by rw [List.take_zero]; exact I4) hit3
  refine wpAny_ite_split (fun _ => ?_) (fun _ => wpAny_pure ⟨plainId_quiet PySem.F.plain_extend_loop _, fin s2 I3 hit2⟩)
  obtain ⟨z, its, k, r3, hl3, e3⟩ := I3.lstM upd_same
  cases r3
  refine wpAny_bind (wpAny_rule ?_)
  refine wpAny_bind ?_
  show wpAny _ _ (updateSeq q0 (·.push .none) >>= fun _ => updateSeq q0 (·.pop)) _ _ _
  refine wpAny_bind (wpAny_updateSeq e3 rfl ?_)
  have I4 := I3.lset (f := (·.push Value.none)) (its' := [Value.none]) (ys := [.non]) (t' := s2.toks) upd_same e3 (by simp) (.cons rfl .nil) (by rw [List.length_singleton, sizeLine_eq]; decide)
  obtain ⟨z4, its4, k4, r4, hl4, e4⟩ := I4.lstM upd_same
  obtain ⟨u4, rfl, ru4⟩ := r4.one
  refine wpAny_updateSeq e4 rfl ?_ (by show 1 ≤ sizeLine; rw [sizeLine_eq]; decide) (by show 0 ≤ sizeLine + 1; exact Nat.zero_le _)
  have I5 := I4.lset (f := (·.pop)) (its := [u4]) (its' := []) (ys := []) (t' := s2.toks) upd_same e4 (by rfl) .nil (Nat.zero_le _)
  rw [upd_upd, upd_upd] at I5
  refine wpAny_pure ⟨plainId_quiet PySem.F.plain_extend_loop _, fin _ I5 ?_⟩
  exact hit2.at fun o e => (Heap.get?_update_other _ _ hqi).trans ((Heap.get?_update_other _ _ hqi).trans e)
end
end Dl

namespace Dl
open PySem PySem.Spec PyProof.Rows L2
/-! ### defs by their promises -/
/-- a def of the module by its name -/
structure Has (P : Program) (w : World) (K : PySem.W.Frag) (mg : Str → Option Value) (base : Heap) (k : Nat) (x : Str) (ps : List Str) (dvs : List V) (sp : Sp) : Prop where
  ex : ∃ (f : Addr) (fd : FuncData) (ds : List Value), mg x = some (.ref f) ∧ PySem.W.keepIn K (.ref f) = true ∧ Binds K fd ps ds ∧ Vals dvs ds ∧ FnOk P w K mg base CX0 k f fd ps sp
/-- a method m of the class at C -/
structure HasM (P : Program) (w : World) (K : PySem.W.Frag) (mg : Str → Option Value) (base : Heap) (k : Nat) (C : Addr) (m : Str) (ps : List Str) (sp : Sp) : Prop where
  ex : ∃ (f : Addr) (fd : FuncData), Meth K C m f ∧ Binds K fd ps [] ∧ FnOk P w K mg base CX0 k f fd ps sp
/-- the class x at C, made by its __init__ -/
structure HasC (P : Program) (w : World) (K : PySem.W.Frag) (mg : Str → Option Value) (base : Heap) (k : Nat) (x : Str) (C : Addr) (ps : List Str) (dvs : List V) (sp : Sp) : Prop where
  ex : ∃ (f : Addr) (fd : FuncData) (ds : List Value), mg x = some (.ref C) ∧ Mk K C f ∧ Binds K fd ps ds ∧ Vals dvs ds ∧ FnOk P w K mg base CX0 k f fd ps sp
/-- an operator's def -/
structure HasO (P : Program) (w : World) (K : PySem.W.Frag) (mg : Str → Option Value) (base : Heap) (k : Nat) (C : Addr) (op : Operator) (ps : List Str) (sp : Sp) : Prop where
  ex : ∃ (f : Addr) (fd : FuncData), PySem.W.selfFirst K C = true ∧ PySem.W.findIn K (.ref C) (PySem.dunder op.info.2) = some (some (.ref f)) ∧ PySem.W.isFn K (.ref f) = true ∧ Binds K fd ps [] ∧ FnOk P w K mg base CX0 k f fd ps sp
section
variable {X : Cx} {k : Nat} {x m : Str} {C : Addr} {ps : List Str} {dvs : List V} {sp : Sp} {e o : Expr} {es : List Expr} {t : TA} {ta : TE} {p pos apos : Pos}
theorem pe_callH (h : Has X.prog X.w X.K X.mg X.base k x ps dvs sp) (hr : Room k X.A) (hg : Gl X x) (ha : PA X (e :: es) t) (hdb : (x == ("__debug__" : Str)) = false := by decide)
    (he : starEach (e :: es) X.env = (false, eval e X.env) :: starEach es X.env := by rfl) (hpl : (backTo pos (starEach es X.env)).any (·.1) = false := by rfl) : PE X (.Call (.Name x p) (e :: es) [] pos) (tCall sp dvs E0 t) := by
  obtain ⟨f, fd, ds, h1, h2, h3, h4, h5⟩ := h.ex
  exact pe_call h5 hr hg h1 h2 h3 h4 pass0 ha hdb he hpl
theorem pe_methH {pl : Sem Bool} (ho : PE X o ta) (c : Cls X.K C) (h : HasM X.prog X.w X.K X.mg X.base k C m ps sp) (hr : Room k X.A) (ha : PA X (e :: es) t)
    (hst : starEach (e :: es) X.env = (false, eval e X.env) :: starEach es X.env := by rfl) (hpl : (backTo pos (starEach es X.env)).any (·.1) = false := by rfl)
    (ht : eval (.Call (.Attribute o m apos) (e :: es) [] pos) X.env = (do
      let ov ← eval o X.env
      standAt apos.atName
      let (f, first) ← holding [ov] (getMethod ov m pl)
      callWith pos f first (backTo pos (starEach (e :: es) X.env)) (backToKw pos (keywordEach [] X.env))) := by rfl) : PE X (.Call (.Attribute o m apos) (e :: es) [] pos) (tMeth C m sp [] E0 ta t) := by
  obtain ⟨f, fd, h1, h3, h5⟩ := h.ex
  exact pe_meth ho c h1 h5 hr h3 .nil pass0 ha hst hpl ht
theorem pe_methH0 {pl : Sem Bool} (ho : PE X o ta) (c : Cls X.K C) (h : HasM X.prog X.w X.K X.mg X.base k C m ps sp) (hr : Room k X.A)
    (ht : eval (.Call (.Attribute o m apos) [] [] pos) X.env = (do
      let ov ← eval o X.env
      standAt apos.atName
      let (f, first) ← holding [ov] (getMethod ov m pl)
      callWith pos f first (backTo pos (starEach [] X.env)) (backToKw pos (keywordEach [] X.env))) := by rfl) : PE X (.Call (.Attribute o m apos) [] [] pos) (tMeth C m sp [] E0 ta tNil) := by
  obtain ⟨f, fd, h1, h3, h5⟩ := h.ex
  exact pe_meth0 ho c h1 h5 hr h3 .nil pass0 ht
theorem pe_makeH (h : HasC X.prog X.w X.K X.mg X.base k x C ps dvs sp) (hr : Room (k + 1) X.A) (hg : Gl X x) (ha : PA X (e :: es) t) (hdb : (x == ("__debug__" : Str)) = false := by decide)
    (he : starEach (e :: es) X.env = (false, eval e X.env) :: starEach es X.env := by rfl) (hpl : (backTo pos (starEach es X.env)).any (·.1) = false := by rfl) : PE X (.Call (.Name x p) (e :: es) [] pos) (tMake C sp dvs E0 t) := by
  obtain ⟨f, fd, ds, h1, h2, h3, h4, h5⟩ := h.ex
  exact pe_make h2 h5 hr hg h1 h3 h4 pass0 ha hdb he hpl
theorem op_ownH {op : Operator} (h : HasO X.prog X.w X.K X.mg X.base k C op ps sp) (hr : Room k X.A) :
    OpR X (binaryOp op) (fun x y H Q => ∃ a b dx fs dx' fs', x = .ref a ∧ y = .ref b ∧ H a = some (.ins C dx fs) ∧ H b = some (.ins C dx' fs') ∧ sp [x, y] H Q E0) := by
  obtain ⟨f, fd, h1, h2, h3, h4, h5⟩ := h.ex
  exact op_own h1 h2 h3 h5 hr h4
/-- another reading of the same -/
theorem pe_imp {t t' : TE} (h : PE X e t) (i : ∀ σ H Q, t' σ H Q → t σ H Q) : PE X e t' := ⟨fun pins s σ H Q I q => h.run pins s σ H Q I (i σ H Q q)⟩
end
/-! ### data -/
abbrev vN (l : List Nat) : List V := l.map fun (n : Nat) => V.int (n : Int)
theorem vN_get {l : List Nat} {i : Nat} {v : V} (h : (vN l)[i]? = some v) : ∃ n, l[i]? = some n ∧ v = .int (n : Int) := by
  rw [List.getElem?_map] at h
  cases e : l[i]? with
  | none => rw [e] at h; cases h
  | some n => rw [e] at h; exact ⟨n, rfl, (Option.some.inj h).symm⟩
theorem vN_at {l : List Nat} {i n : Nat} (h : l[i]? = some n) : (vN l)[i]? = some (.int (n : Int)) := by rw [List.getElem?_map, h]; rfl
theorem vN_len (l : List Nat) : (vN l).length = l.length := by rw [List.length_map]
/-- a fraction's fields -/
def rf (t b : Int) : List (Str × V) := putF "bottom" (.int b) (putF "top" (.int t) [])
theorem tb_ : ¬ (("top" : Str) = "bottom") := by decide +kernel
theorem rf_top (t b : Int) : (rf t b).lookup ("top" : Str) = some (.int t) := by
  unfold rf
  rw [lookup_putF, if_neg tb_, lookup_putF, if_pos rfl]
theorem rf_bottom (t b : Int) : (rf t b).lookup ("bottom" : Str) = some (.int b) := by
  unfold rf
  rw [lookup_putF, if_pos rfl]
theorem rf_no (t b : Int) {m : Str} (h1 : ¬ m = "bottom") (h2 : ¬ m = "top") : (rf t b).lookup m = none := by
  unfold rf
  rw [lookup_putF, if_neg h1, lookup_putF, if_neg h2]
  rfl
/-- a rule's fields -/
def wf (n : Nat) (l : Addr) (a : Int) : List (Str × V) := putF "aside" (.int a) (putF "weights" (.ref l) (putF "many" (.int n) []))
theorem ma_ : ¬ (("many" : Str) = "aside") := by decide +kernel
theorem wa_ : ¬ (("weights" : Str) = "aside") := by decide +kernel
theorem mw_ : ¬ (("many" : Str) = "weights") := by decide +kernel
theorem mr_ : ¬ (("many" : Str) = "records") := by decide +kernel
theorem wf_many (n : Nat) (l : Addr) (a : Int) : (wf n l a).lookup ("many" : Str) = some (.int n) := by
  unfold wf
  rw [lookup_putF, if_neg ma_, lookup_putF, if_neg mw_, lookup_putF, if_pos rfl]
theorem wf_weights (n : Nat) (l : Addr) (a : Int) : (wf n l a).lookup ("weights" : Str) = some (.ref l) := by
  unfold wf
  rw [lookup_putF, if_neg wa_, lookup_putF, if_pos rfl]
theorem wf_aside (n : Nat) (l : Addr) (a : Int) : (wf n l a).lookup ("aside" : Str) = some (.int a) := by
  unfold wf
  rw [lookup_putF, if_pos rfl]
theorem wf_no (n : Nat) (l : Addr) (a : Int) {m : Str} (h1 : ¬ m = "aside") (h2 : ¬ m = "weights") (h3 : ¬ m = "many") : (wf n l a).lookup m = none := by
  unfold wf
  rw [lookup_putF, if_neg h1, lookup_putF, if_neg h2, lookup_putF, if_neg h3]
  rfl
/-- a book's fields -/
def sf (n : Nat) (l : Addr) : List (Str × V) := putF "records" (.ref l) (putF "many" (.int n) [])
theorem sf_many (n : Nat) (l : Addr) : (sf n l).lookup ("many" : Str) = some (.int n) := by
  unfold sf
  rw [lookup_putF, if_neg mr_, lookup_putF, if_pos rfl]
theorem sf_records (n : Nat) (l : Addr) : (sf n l).lookup ("records" : Str) = some (.ref l) := by
  unfold sf
  rw [lookup_putF, if_pos rfl]
theorem sf_no (n : Nat) (l : Addr) {m : Str} (h1 : ¬ m = "records") (h2 : ¬ m = "many") : (sf n l).lookup m = none := by
  unfold sf
  rw [lookup_putF, if_neg h1, lookup_putF, if_neg h2]
  rfl
/-- a record -/
structure Rc where
  lot : List Nat
  sold : List Nat
  gone : Nat
/-- the fraction t over b stands at p -/
def RatAt (R : Addr) (H : Hp) (p : Addr) (t b : Int) : Prop := ∃ dx, H p = some (.ins R dx (rf t b))
/-- the rule with these weights stands at p -/
def WtdAt (W : Addr) (H : Hp) (p : Addr) (ws : List Nat) (a : Nat) : Prop := ∃ dx l, H p = some (.ins W dx (wf ws.length l a)) ∧ H l = some (.tup (vN ws))
/-- a record as a book keeps it; as the law makes it -/
def RcT (H : Hp) (p : Addr) (r : Rc) : Prop := ∃ pl ps, H p = some (.tup [.ref pl, .ref ps, .int r.gone]) ∧ H pl = some (.tup (vN r.lot)) ∧ H ps = some (.tup (vN r.sold))
def RcL (H : Hp) (p : Addr) (r : Rc) : Prop := ∃ pl ps, H p = some (.tup [.ref pl, .ref ps, .int r.gone]) ∧ H pl = some (.tup (vN r.lot)) ∧ H ps = some (.lst (vN r.sold))
/-- objects, one for each item -/
def Each {α : Type} (F : Hp → Addr → α → Prop) (H : Hp) (as : List Addr) (rs : List α) : Prop := as.length = rs.length ∧ ∀ (i : Nat) a r, as[i]? = some a → rs[i]? = some r → F H a r
/-- a list of such objects stands at l -/
def LstOf {α : Type} (F : Hp → Addr → α → Prop) (H : Hp) (l : Addr) (rs : List α) : Prop := ∃ as : List Addr, H l = some (.lst (as.map V.ref)) ∧ Each F H as rs
def BookAt (S : Addr) (H : Hp) (p : Addr) (n : Nat) (rs : List Rc) : Prop := ∃ dx l, H p = some (.ins S dx (sf n l)) ∧ LstOf RcT H l rs
section
variable {H H' : Hp} {C p l : Addr}
theorem RatAt.same {t b : Int} (s : Same H H') (h : RatAt C H p t b) : RatAt C H' p t b := let ⟨dx, e⟩ := h; ⟨dx, s _ _ e⟩
theorem WtdAt.same {ws : List Nat} {a : Nat} (s : Same H H') (h : WtdAt C H p ws a) : WtdAt C H' p ws a := let ⟨dx, l, e, e2⟩ := h; ⟨dx, l, s _ _ e, s _ _ e2⟩
theorem RcT.same {r : Rc} (s : Same H H') (h : RcT H p r) : RcT H' p r := let ⟨a, b, e, e2, e3⟩ := h; ⟨a, b, s _ _ e, s _ _ e2, s _ _ e3⟩
theorem RcL.same {r : Rc} (s : Same H H') (h : RcL H p r) : RcL H' p r := let ⟨a, b, e, e2, e3⟩ := h; ⟨a, b, s _ _ e, s _ _ e2, s _ _ e3⟩
theorem Each.imp {α : Type} {F G : Hp → Addr → α → Prop} {as : List Addr} {rs : List α} (i : ∀ a r, F H a r → G H' a r) (h : Each F H as rs) : Each G H' as rs := ⟨h.1, fun j a r e1 e2 => i a r (h.2 j a r e1 e2)⟩
theorem LstOf.same {α : Type} {F : Hp → Addr → α → Prop} {rs : List α} (i : ∀ a r, F H a r → F H' a r) (s : Same H H') (h : LstOf F H l rs) : LstOf F H' l rs := let ⟨as, e, q⟩ := h; ⟨as, s _ _ e, q.imp i⟩
theorem BookAt.same {n : Nat} {rs : List Rc} (s : Same H H') (h : BookAt C H p n rs) : BookAt C H' p n rs := let ⟨dx, l, e, q⟩ := h; ⟨dx, l, s _ _ e, q.same (fun _ _ z => RcT.same s z) s⟩
theorem Each.nil {α : Type} {F : Hp → Addr → α → Prop} : Each F H [] [] := ⟨rfl, fun i a r h => by simp at h⟩
theorem Each.snoc {α : Type} {F : Hp → Addr → α → Prop} {as : List Addr} {rs : List α} {a : Addr} {r : α} (h : Each F H as rs) (q : F H a r) : Each F H (as ++ [a]) (rs ++ [r]) := by
  refine ⟨by rw [List.length_append, List.length_append, h.1]; rfl, fun i b u e1 e2 => ?_⟩
  by_cases hi : i < as.length
  · rw [List.getElem?_append_left hi] at e1
    rw [List.getElem?_append_left (by rw [← h.1]; exact hi)] at e2
    exact h.2 i b u e1 e2
  · rw [List.getElem?_append_right (by omega)] at e1
    rw [List.getElem?_append_right (by rw [← h.1]; omega)] at e2
    rw [← h.1] at e2
    cases hj : i - as.length with
    | zero =>
      rw [hj] at e1 e2
      cases Option.some.inj e1
      cases Option.some.inj e2
      exact q
    | succ j =>
      rw [hj] at e1
      simp at e1
theorem Each.get {α : Type} {F : Hp → Addr → α → Prop} {as : List Addr} {rs : List α} (h : Each F H as rs) {i : Nat} {v : V} (e : (as.map V.ref)[i]? = some v) : ∃ a r, v = .ref a ∧ as[i]? = some a ∧ rs[i]? = some r ∧ F H a r := by
  rw [List.getElem?_map] at e
  cases q : as[i]? with
  | none => rw [q] at e; cases e
  | some a =>
    rw [q] at e
    have hi : i < rs.length := by rw [← h.1]; exact (List.getElem?_eq_some_iff.mp q).1
    exact ⟨a, rs[i], (Option.some.inj e).symm, rfl, List.getElem?_eq_getElem hi, h.2 i a _ q (List.getElem?_eq_getElem hi)⟩
theorem Each.set {α : Type} {F : Hp → Addr → α → Prop} {as : List Addr} {rs : List α} {a : Addr} {r : α} (h : Each F H as rs) (j : Nat) (q : F H a r) : Each F H (as.set j a) (rs.set j r) := by
  refine ⟨by rw [List.length_set, List.length_set, h.1], fun i b u e1 e2 => ?_⟩
  by_cases hij : j = i
  · subst hij
    rw [List.getElem?_set] at e1 e2
    simp only [if_true] at e1 e2
    split at e1
    · rw [if_pos (by rw [← h.1]; assumption)] at e2
      cases e1; cases e2
      exact q
    · cases e1
  · rw [List.getElem?_set_ne hij] at e1 e2
    exact h.2 i b u e1 e2
/-- a new object stands beside all others -/
theorem Same.new {o : HO} (h : H p = none) : Same H (upd H p o) := fun b u e => by rw [upd_ne (ne_of_none e h)]; exact e
theorem Same.then_new {H1 : Hp} {o : HO} (s : Same H H1) (h : H1 p = none) : Same H (upd H1 p o) := s.trans (Same.new h)
/-- an object that was new is changed -/
theorem Same.then_set {H1 : Hp} {o : HO} (s : Same H H1) (h : H p = none) : Same H (upd H1 p o) := fun b u e => by rw [upd_ne (ne_of_none e h)]; exact s b u e
end
/-! ### rules within a comprehension's block, the written part by its name -/
section
variable {X : Cx} {K : PySem.W.Frag} {e : Expr} {f : Str} {pos : Pos} {ta : TE}
theorem ix_tupK (hK : X.K = K) : IxR X (rIxT K) := by subst hK; exact ix_tup
theorem ix_listK (hK : X.K = K) : IxR X (rIxL K) := by subst hK; exact ix_list
theorem op_in_seqK (hK : X.K = K) : OpR X (compareOp .In) (rIn K false) := by subst hK; exact op_in_seq
theorem pe_fldK (hK : X.K = K) (he : PE X e ta) (hb : attributeBase e f X.env (eval e X.env) = eval e X.env) : PE X (.Attribute e f pos) (tFld K ta f) := by subst hK; exact pe_fld he hb
theorem call_list_ofK (hK : X.K = K) : CallR X (.type "list") (fun xs H Q => ∃ p ys, xs = [.ref p] ∧ (SqL K H p ys ∨ SqT K H p ys) ∧ ∀ l, H l = none → Q (.ref l) (upd H l (.lst ys))) := by subst hK; exact call_list_of
theorem tyes_if {σ : L2.St} {H : Hp} {A B : Hp → Prop} (h : A H) : tYes σ H (fun b H3 => if b = true then A H3 else B H3) := by
  show (if true = true then A H else B H)
  rw [if_pos rfl]
  exact h
end
/-! ### what the top tells of the classes -/
structure Tx (K : PySem.W.Frag) (mg : Str → Option Value) (R W S : Addr) : Prop where
  clR : Cls K R
  clW : Cls K W
  clS : Cls K S
  rTop : NoAttr K R "top"
  rBot : NoAttr K R "bottom"
  wMany : NoAttr K W "many"
  wWei : NoAttr K W "weights"
  wAs : NoAttr K W "aside"
  sMany : NoAttr K S "many"
  sRec : NoAttr K S "records"
  mgR : mg "Ratio" = some (.ref R)
  mgW : mg "Weighted" = some (.ref W)
  mgS : mg "SalesBook" = some (.ref S)
  wMost : ∃ u, Con K W "MOST" (.int 24) u
  sMost : ∃ u, Con K S "MOST" (.int 24) u
  tyR : ∀ (H : Hp) (a dx : Addr) (fs : List (Str × V)), H a = some (.ins R dx fs) → TyOf K H (.ref a) (.ref R)
  tyW : ∀ (H : Hp) (a dx : Addr) (fs : List (Str × V)), H a = some (.ins W dx fs) → TyOf K H (.ref a) (.ref W)
  kRi : PySem.W.kitOne K (.ref R) (.type "int") = some false
  kRR : PySem.W.kitOne K (.ref R) (.ref R) = some true
  kWW : PySem.W.kitOne K (.ref W) (.ref W) = some true
  gcd : mg "gcd" = some (.builtin "math.gcd")
  lcm : mg "lcm" = some (.builtin "math.lcm")
  mr : ∃ t, mg "MOST_ROUNDS" = some (.int 2 t)
  len : mg "len" = none
  range : mg "range" = none
  sum : mg "sum" = none
  any : mg "any" = none
  list : mg "list" = none
  tuple : mg "tuple" = none
  enumerate : mg "enumerate" = none
  zip : mg "zip" = none
  isinstance : mg "isinstance" = none
  int : mg "int" = none
  bool : mg "bool" = none
end Dl

namespace Dl
open PySem PySem.Spec PyProof.Rows L2
def tops (i : Nat) : Stmt := PySem.Challenge.pw_dearestshelf_k71_whole_learning_never_le.main.body.getD i (.Pass ⟨0, 0, 0, 0⟩)
theorem ifN {c A B : Prop} [Decidable c] (h : ¬ c) (b : B) : if decide c = true then A else B := by
  rw [decide_eq_false h]
  exact iteF b
theorem ifY {c A B : Prop} [Decidable c] (h : c) (a : A) : if decide c = true then A else B := by
  rw [decide_eq_true h]
  exact iteT a
theorem ifNN {c A B : Prop} [Decidable c] (h : c) (b : B) : if (!decide c) = true then A else B := by
  rw [decide_eq_true h]
  exact iteF b
theorem int_ne {i j : Int} (h : i ≠ j) : ¬ V.int i = V.int j := fun e => h (V.int.inj e)
/-! ### Ratio -/
/-- Ratio.__init__: the fraction of t and b stands at p, in smaller numbers -/
def spRat (R : Addr) : Sp := fun vs H Q _ => ∃ (p dx : Addr) (t b : Int), vs = [.ref p, .int t, .int b] ∧ H p = some (.ins R dx []) ∧ 0 < b ∧
  ∀ (H' : Hp) (t' b' : Int), RatAt R H' p t' b' → 0 < b' → t' * b = t * b' → t'.natAbs ≤ t.natAbs → b'.natAbs ≤ b.natAbs → (∀ c o, H c = some o → c ≠ p → H' c = some o) → Q .non H'
/-- a new fraction -/
def NewR (R : Addr) (H : Hp) (Q : VK) (P : Int → Int → Prop) : Prop := ∀ (x : Addr) (H' : Hp) (t b : Int), Same H H' → H x = none → RatAt R H' x t b → 0 < b → P t b → Q (.ref x) H'
/-- the same as t over b, in smaller numbers -/
def Lows (t b t' b' : Int) : Prop := t' * b = t * b' ∧ t'.natAbs ≤ t.natAbs ∧ b'.natAbs ≤ b.natAbs
/-- what Ratio(t, b) asks -/
theorem rat_made {R : Addr} {H : Hp} {Q : Addr → Hp → Prop} {t b : Int} (hb : 0 < b) (h : ∀ (x : Addr) (H' : Hp) (t' b' : Int), Same H H' → H x = none → RatAt R H' x t' b' → 0 < b' → Lows t b t' b' → Q x H') :
    ∀ x dx, H x = none → H dx = none → dx ≠ x → spRat R (.ref x :: [.int t, .int b]) (upd (upd H dx (.own x)) x (.ins R dx [])) (fun v H2 => v = .non ∧ Q x H2) E0 := by
  intro x dx nx ndx ne
  refine ⟨x, dx, t, b, rfl, upd_same, hb, fun H' t' b' r hb' e1 e2 e3 k => ⟨rfl, ?_⟩⟩
  exact h x H' t' b' (Same.made nx ndx k) nx r hb' ⟨e1, e2, e3⟩
section
variable {P : Program} {w : World} {K : PySem.W.Frag} {mg : Str → Option Value} {base : Heap} {R W S : Addr}
abbrev s_Ratio_init : Stmt := inClass (tops 14) 0
abbrev N_Ratio_init : List Str := ["self", "top", "bottom", "shared"]
theorem sc_Ratio_init : FnScope N_Ratio_init ["self", "top", "bottom"] (defScope s_Ratio_init) := ⟨rfl, rfl, rfl, by decide +kernel, rfl, by decide +kernel, by decide +kernel⟩
-- slots: 0 self, 1 top, 2 bottom, 3 shared
theorem gcd_facts {t b : Int} (hb : 0 < b) : let g : Int := ((Nat.gcd t.natAbs b.natAbs : Nat) : Int); 0 < g ∧ 0 < b / g ∧ t / g * b = t * (b / g) ∧ (t / g).natAbs ≤ t.natAbs ∧ (b / g).natAbs ≤ b.natAbs := by
  intro g
  have hg : 0 < g := by
    have : 0 < Nat.gcd t.natAbs b.natAbs := Nat.gcd_pos_of_pos_right _ (Int.natAbs_pos.mpr (by omega))
    omega
  have d1 : g ∣ t := Int.natAbs_dvd_natAbs.mp (show Nat.gcd t.natAbs b.natAbs ∣ t.natAbs from Nat.gcd_dvd_left _ _)
  have d2 : g ∣ b := Int.natAbs_dvd_natAbs.mp (show Nat.gcd t.natAbs b.natAbs ∣ b.natAbs from Nat.gcd_dvd_right _ _)
  have e1 : t / g * g = t := Int.ediv_mul_cancel d1
  have e2 : b / g * g = b := Int.ediv_mul_cancel d2
  have le : ∀ z : Int, g ∣ z → (z / g).natAbs ≤ z.natAbs := fun z dz => by
    have e : z / g * g = z := Int.ediv_mul_cancel dz
    have : z.natAbs = (z / g).natAbs * g.natAbs := by rw [← Int.natAbs_mul, e]
    rw [this]
    exact Nat.le_mul_of_pos_right _ (by omega)
  refine ⟨hg, ?_, ?_, le t d1, le b d2⟩
  · rcases Int.lt_trichotomy (b / g) 0 with h | h | h
    · have := Int.mul_neg_of_neg_of_pos h hg; omega
    · rw [h] at e2; omega
    · exact h
  · calc t / g * b = t / g * (b / g * g) := by rw [e2]
      _ = (t / g * g) * (b / g) := by rw [Int.mul_comm (b / g) g, ← Int.mul_assoc]
      _ = t * (b / g) := by rw [e1]
theorem ok_Ratio_init {f : Addr} {fd : FuncData} (T : Tx K mg R W S) (ar : Ar P base) (F : FunD K "__init__" "Ratio.__init__" (defArgs s_Ratio_init) (defBody s_Ratio_init) (defScope s_Ratio_init) [.int 1] [] f fd) :
    FnOk P w K mg base CX0 41 f fd ["self", "top", "bottom"] (spRat R) := by
  refine F.ok sc_Ratio_init (fun vs H Q E h => ?_) (fun cdv A outer s H vs Q E hr h => ?_)
  · obtain ⟨p, dx, t, b, rfl, _⟩ := h
    rfl
  · obtain ⟨p, dx, t, b, rfl, hp, hb, k⟩ := h
    refine ⟨_, PSs.nox (pss_cons (ps_if (pt_cmpR op_eq (pv 2) pe_int (nomark _)) pss_never pss_nil)
    (pss_cons (ps_if (pt_cmpR op_lt (pv 2) pe_int (nomark _)) pss_never pss_nil)
    (pss_cons (ps_set (i := 3) sc_Ratio_init.nd rfl (Or.inl rfl) (pe_callBfun cr_gcd rfl T.gcd (pa_cons (pv 1) (pa_cons (pv 2) pa_nil))))
    (pss_cons (ps_fld (pv 0) (pe_op (op_fdivA ar (hr.mono (by decide))) (pv 1) (pv 3)) rfl)
    (pss_one (ps_fld (pv 0) (pe_op (op_fdivA ar (hr.mono (by decide))) (pv 2) (pv 3)) rfl)))))), ?_⟩
    obtain ⟨hg, g1, g2, g3, g4⟩ := gcd_facts (t := t) hb
    refine ⟨_, rfl, rfl, _, rfl, ifN (int_ne (by omega)) ?_⟩
    refine ⟨_, rfl, _, _, rfl, rfl, _, rfl, ifN (by omega) ?_⟩
    refine ⟨_, rfl, _, rfl, _, _, rfl, ?_⟩
    refine ⟨_, rfl, _, rfl, _, _, rfl, rfl, hg, _, rfl, p, R, dx, [], rfl, hp, T.clR, T.rTop, (by show 0 < 1000; decide), ?_⟩
    refine ⟨_, rfl, _, rfl, _, _, rfl, rfl, hg, _, rfl, p, R, dx, _, rfl, upd_same, T.clR, T.rBot, (by show 1 < 1000; decide), ?_⟩
    refine k _ _ _ ⟨dx, upd_same⟩ g1 g2 g3 g4 fun c o e hc => ?_
    rw [upd_ne hc, upd_ne hc]
    exact e
end
end Dl

namespace Dl
open PySem PySem.Spec PyProof.Rows L2
abbrev Cp (n : Int) : Prop := n.natAbs < 2 ^ cap
/-- two fractions -/
def Two (R : Addr) (H : Hp) (p q : Addr) (t1 b1 t2 b2 : Int) : Prop := RatAt R H p t1 b1 ∧ RatAt R H q t2 b2 ∧ 0 < b1 ∧ 0 < b2 ∧ Cp t1 ∧ Cp b1 ∧ Cp t2 ∧ Cp b2
def spAdd (R : Addr) : Sp := fun vs H Q _ => ∃ (p q : Addr) (t1 b1 t2 b2 : Int), vs = [.ref p, .ref q] ∧ Two R H p q t1 b1 t2 b2 ∧ NewR R H Q (Lows (t1 * b2 + t2 * b1) (b1 * b2))
def spSub (R : Addr) : Sp := fun vs H Q _ => ∃ (p q : Addr) (t1 b1 t2 b2 : Int), vs = [.ref p, .ref q] ∧ Two R H p q t1 b1 t2 b2 ∧ NewR R H Q (Lows (t1 * b2 - t2 * b1) (b1 * b2))
def spOver (R : Addr) : Sp := fun vs H Q _ => ∃ (p q : Addr) (t1 b1 t2 b2 : Int), vs = [.ref p, .ref q] ∧ Two R H p q t1 b1 t2 b2 ∧ 0 < t2 ∧ NewR R H Q (Lows (t1 * b2) (b1 * t2))
section
variable {P : Program} {w : World} {K : PySem.W.Frag} {mg : Str → Option Value} {base : Heap} {R W S : Addr}
/-- the class Ratio, called with both numbers, with one -/
abbrev HR2 (P : Program) (w : World) (K : PySem.W.Frag) (mg : Str → Option Value) (base : Heap) (R : Addr) : Prop := HasC P w K mg base 41 "Ratio" R ["self", "top", "bottom"] [] (spRat R)
abbrev HR1 (P : Program) (w : World) (K : PySem.W.Frag) (mg : Str → Option Value) (base : Heap) (R : Addr) : Prop := HasC P w K mg base 41 "Ratio" R ["self", "top", "bottom"] [.int 1] (spRat R)
abbrev s_Ratio_add : Stmt := inClass (tops 14) 1
abbrev N_Ratio_add : List Str := ["self", "other"]
theorem sc_Ratio_add : FnScope N_Ratio_add ["self", "other"] (defScope s_Ratio_add) := ⟨rfl, rfl, rfl, by decide +kernel, rfl, by decide +kernel, by decide +kernel⟩
-- slots: 0 self, 1 other
abbrev s_Ratio_sub : Stmt := inClass (tops 14) 3
abbrev N_Ratio_sub : List Str := ["self", "other"]
theorem sc_Ratio_sub : FnScope N_Ratio_sub ["self", "other"] (defScope s_Ratio_sub) := ⟨rfl, rfl, rfl, by decide +kernel, rfl, by decide +kernel, by decide +kernel⟩
-- slots: 0 self, 1 other
abbrev s_Ratio_over : Stmt := inClass (tops 14) 18
abbrev N_Ratio_over : List Str := ["self", "other"]
theorem sc_Ratio_over : FnScope N_Ratio_over ["self", "other"] (defScope s_Ratio_over) := ⟨rfl, rfl, rfl, by decide +kernel, rfl, by decide +kernel, by decide +kernel⟩
-- slots: 0 self, 1 other
theorem ok_Ratio_add {f : Addr} {fd : FuncData} (T : Tx K mg R W S) (hR2 : HR2 P w K mg base R) (F : Fun K "__add__" "Ratio.__add__" s_Ratio_add f fd) : FnOk P w K mg base CX0 43 f fd ["self", "other"] (spAdd R) := by
  refine F.ok sc_Ratio_add (fun vs H Q E h => ?_) (fun cdv A outer s H vs Q E hr h => ?_)
  · obtain ⟨p, q, t1, b1, t2, b2, rfl, _⟩ := h
    rfl
  · obtain ⟨p, q, t1, b1, t2, b2, rfl, ⟨⟨d1, h1⟩, ⟨d2, h2⟩, p1, p2, c1, c2, c3, c4⟩, k⟩ := h
    refine ⟨_, (pss_cons (ps_if (pt_val (pe_callB call_isi (by rfl) T.isinstance (by decide +kernel) (pa_cons (pv 1) (pa_cons (pe_bltn (v := .ty "int") (by rfl) T.int (by decide +kernel) rfl) pa_nil)))) pss_never pss_nil)
    (pss_cons (ps_if (pt_not (pt_val (pe_callB call_isi (by rfl) T.isinstance (by decide +kernel) (pa_cons (pv 1) (pa_cons (pe_glob (v := .ref R) rfl T.mgR rfl) pa_nil))))) pss_never pss_nil)
    (pss_one (ps_ret (pe_makeH hR2 (hr.mono (by decide)) rfl (pa_cons (pe_op op_add (pe_op op_mulX (pe_fld (pv 0) rfl) (pe_fld (pv 1) rfl)) (pe_op op_mulX (pe_fld (pv 1) rfl) (pe_fld (pv 0) rfl))) (pa_cons (pe_op op_mulX (pe_fld (pv 0) rfl) (pe_fld (pv 1) rfl)) pa_nil))))))), ?_⟩
    refine ⟨_, rfl, .ref q, .ty "int", .ref R, .type "int", false, rfl, .ty _, .base (T.tyR _ _ _ _ h2), T.kRi, false, rfl, iteF ?_⟩
    refine ⟨_, rfl, .ref q, .ref R, .ref R, .ref R, true, rfl, .own _, .base (T.tyR _ _ _ _ h2), T.kRR, true, rfl, iteF ?_⟩
    refine ⟨_, rfl, p, R, d1, _, _, rfl, h1, T.clR, T.rTop, rf_top _ _, _, rfl, q, R, d2, _, _, rfl, h2, T.clR, T.rBot, rf_bottom _ _, _, _, rfl, rfl, mul_cap c1 c4, ?_⟩
    refine ⟨_, rfl, q, R, d2, _, _, rfl, h2, T.clR, T.rTop, rf_top _ _, _, rfl, p, R, d1, _, _, rfl, h1, T.clR, T.rBot, rf_bottom _ _, _, _, rfl, rfl, mul_cap c3 c2, _, _, rfl, rfl, ?_⟩
    refine ⟨_, rfl, p, R, d1, _, _, rfl, h1, T.clR, T.rBot, rf_bottom _ _, _, rfl, q, R, d2, _, _, rfl, h2, T.clR, T.rBot, rf_bottom _ _, _, _, rfl, rfl, mul_cap c2 c4, ?_⟩
    exact rat_made (Int.mul_pos p1 p2) k
theorem ok_Ratio_sub {f : Addr} {fd : FuncData} (T : Tx K mg R W S) (hR2 : HR2 P w K mg base R) (F : Fun K "__sub__" "Ratio.__sub__" s_Ratio_sub f fd) : FnOk P w K mg base CX0 43 f fd ["self", "other"] (spSub R) := by
  refine F.ok sc_Ratio_sub (fun vs H Q E h => ?_) (fun cdv A outer s H vs Q E hr h => ?_)
  · obtain ⟨p, q, t1, b1, t2, b2, rfl, _⟩ := h
    rfl
  · obtain ⟨p, q, t1, b1, t2, b2, rfl, ⟨⟨d1, h1⟩, ⟨d2, h2⟩, p1, p2, c1, c2, c3, c4⟩, k⟩ := h
    refine ⟨_, (pss_cons (ps_if (pt_val (pe_callB call_isi (by rfl) T.isinstance (by decide +kernel) (pa_cons (pv 1) (pa_cons (pe_bltn (v := .ty "int") (by rfl) T.int (by decide +kernel) rfl) pa_nil)))) pss_never pss_nil)
    (pss_cons (ps_if (pt_not (pt_val (pe_callB call_isi (by rfl) T.isinstance (by decide +kernel) (pa_cons (pv 1) (pa_cons (pe_glob (v := .ref R) rfl T.mgR rfl) pa_nil))))) pss_never pss_nil)
    (pss_one (ps_ret (pe_makeH hR2 (hr.mono (by decide)) rfl (pa_cons (pe_op op_sub (pe_op op_mulX (pe_fld (pv 0) rfl) (pe_fld (pv 1) rfl)) (pe_op op_mulX (pe_fld (pv 1) rfl) (pe_fld (pv 0) rfl))) (pa_cons (pe_op op_mulX (pe_fld (pv 0) rfl) (pe_fld (pv 1) rfl)) pa_nil))))))), ?_⟩
    refine ⟨_, rfl, .ref q, .ty "int", .ref R, .type "int", false, rfl, .ty _, .base (T.tyR _ _ _ _ h2), T.kRi, false, rfl, iteF ?_⟩
    refine ⟨_, rfl, .ref q, .ref R, .ref R, .ref R, true, rfl, .own _, .base (T.tyR _ _ _ _ h2), T.kRR, true, rfl, iteF ?_⟩
    refine ⟨_, rfl, p, R, d1, _, _, rfl, h1, T.clR, T.rTop, rf_top _ _, _, rfl, q, R, d2, _, _, rfl, h2, T.clR, T.rBot, rf_bottom _ _, _, _, rfl, rfl, mul_cap c1 c4, ?_⟩
    refine ⟨_, rfl, q, R, d2, _, _, rfl, h2, T.clR, T.rTop, rf_top _ _, _, rfl, p, R, d1, _, _, rfl, h1, T.clR, T.rBot, rf_bottom _ _, _, _, rfl, rfl, mul_cap c3 c2, _, _, rfl, rfl, ?_⟩
    refine ⟨_, rfl, p, R, d1, _, _, rfl, h1, T.clR, T.rBot, rf_bottom _ _, _, rfl, q, R, d2, _, _, rfl, h2, T.clR, T.rBot, rf_bottom _ _, _, _, rfl, rfl, mul_cap c2 c4, ?_⟩
    exact rat_made (Int.mul_pos p1 p2) k
theorem ok_Ratio_over {f : Addr} {fd : FuncData} (T : Tx K mg R W S) (hR2 : HR2 P w K mg base R) (F : Fun K "over" "Ratio.over" s_Ratio_over f fd) : FnOk P w K mg base CX0 43 f fd ["self", "other"] (spOver R) := by
  refine F.ok sc_Ratio_over (fun vs H Q E h => ?_) (fun cdv A outer s H vs Q E hr h => ?_)
  · obtain ⟨p, q, t1, b1, t2, b2, rfl, _⟩ := h
    rfl
  · obtain ⟨p, q, t1, b1, t2, b2, rfl, ⟨⟨d1, h1⟩, ⟨d2, h2⟩, p1, p2, c1, c2, c3, c4⟩, p3, k⟩ := h
    refine ⟨_, (pss_cons (ps_if (pt_val (pe_callB call_isi (by rfl) T.isinstance (by decide +kernel) (pa_cons (pv 1) (pa_cons (pe_bltn (v := .ty "int") (by rfl) T.int (by decide +kernel) rfl) pa_nil)))) pss_never pss_nil)
    (pss_one (ps_ret (pe_makeH hR2 (hr.mono (by decide)) rfl (pa_cons (pe_op op_mulX (pe_fld (pv 0) rfl) (pe_fld (pv 1) rfl)) (pa_cons (pe_op op_mulX (pe_fld (pv 0) rfl) (pe_fld (pv 1) rfl)) pa_nil)))))), ?_⟩
    refine ⟨_, rfl, .ref q, .ty "int", .ref R, .type "int", false, rfl, .ty _, .base (T.tyR _ _ _ _ h2), T.kRi, false, rfl, iteF ?_⟩
    refine ⟨_, rfl, p, R, d1, _, _, rfl, h1, T.clR, T.rTop, rf_top _ _, _, rfl, q, R, d2, _, _, rfl, h2, T.clR, T.rBot, rf_bottom _ _, _, _, rfl, rfl, mul_cap c1 c4, ?_⟩
    refine ⟨_, rfl, p, R, d1, _, _, rfl, h1, T.clR, T.rBot, rf_bottom _ _, _, rfl, q, R, d2, _, _, rfl, h2, T.clR, T.rTop, rf_top _ _, _, _, rfl, rfl, mul_cap c2 c3, ?_⟩
    exact rat_made (Int.mul_pos p1 p3) k
end
end Dl

namespace Dl
open PySem PySem.Spec PyProof.Rows L2
/-- a lot: ascending, below n -/
structure Asc (n : Nat) (lot : List Nat) : Prop where
  up : lot.Pairwise (· < ·)
  lt : ∀ i ∈ lot, i < n
theorem Asc.len {n : Nat} {lot : List Nat} (h : Asc n lot) : lot.length ≤ n := by
  have key : ∀ (l : List Nat) (m : Nat), l.Pairwise (· < ·) → (∀ i ∈ l, m ≤ i ∧ i < n) → l.length ≤ n - m := by
    intro l
    induction l with
    | nil => intro m _ _; exact Nat.zero_le _
    | cons a r ih =>
      intro m hp hm
      have h1 := hm a List.mem_cons_self
      have h2 := ih (a + 1) (List.pairwise_cons.mp hp).2 fun i hi => ⟨(List.pairwise_cons.mp hp).1 i hi, (hm i (List.mem_cons_of_mem _ hi)).2⟩
      rw [List.length_cons]
      omega
  have := key lot 0 h.up fun i hi => ⟨Nat.zero_le _, h.lt i hi⟩
  omega
/-- the thing before the i-th, -1 at first -/
def bef (lot : List Nat) : Nat → Int
  | 0 => -1
  | i + 1 => (lot.getD i 0 : Nat)
theorem bef_lt {n : Nat} {lot : List Nat} (h : Asc n lot) {i x : Nat} (e : lot[i]? = some x) : bef lot i < (x : Int) := by
  cases i with
  | zero => show (-1 : Int) < x; omega
  | succ j =>
    obtain ⟨hi, ei⟩ := List.getElem?_eq_some_iff.mp e
    have hj : j < lot.length := by omega
    show ((lot.getD j 0 : Nat) : Int) < x
    rw [List.getD_eq_getElem?_getD, List.getElem?_eq_getElem hj, Option.getD_some]
    have := List.pairwise_iff_getElem.mp h.up j (j + 1) hj hi (by omega)
    omega
/-- the fraction x over y stands at p, in smaller numbers -/
def RatQ (R : Addr) (H : Hp) (p : Addr) (x y : Int) : Prop := ∃ t b, RatAt R H p t b ∧ 0 < b ∧ Lows x y t b
theorem RatQ.same {R : Addr} {H H' : Hp} {p : Addr} {x y : Int} (s : Same H H') (h : RatQ R H p x y) : RatQ R H' p x y := let ⟨t, b, e, q⟩ := h; ⟨t, b, e.same s, q⟩
abbrev RatP (R : Addr) : Hp → Addr → Int × Int → Prop := fun H a xy => RatQ R H a xy.1 xy.2
/-- instances stay (a list may have changed) -/
def Ins (H H' : Hp) : Prop := ∀ b C dx fs, H b = some (.ins C dx fs) → H' b = some (.ins C dx fs)
theorem Same.ins {H H' : Hp} (s : Same H H') : Ins H H' := fun _ _ _ _ e => s _ _ e
theorem Ins.of_lst {H H2 : Hp} {D : Addr} {xs : List V} {o : HO} (s : Same H H2) (hD : H2 D = some (.lst xs)) : Ins H (upd H2 D o) := fun b C dx fs e => by
  rw [upd_ne (fun z => by subst z; rw [s _ _ e] at hD; cases hD)]
  exact s _ _ e
theorem RatQ.ins {R : Addr} {H H' : Hp} {p : Addr} {x y : Int} (i : Ins H H') (h : RatQ R H p x y) : RatQ R H' p x y := let ⟨t, b, ⟨dx, e⟩, q⟩ := h; ⟨t, b, ⟨dx, i _ _ _ _ e⟩, q⟩
def tot (ws : List Nat) (a : Nat) (lot : List Nat) : Nat := a + (lot.map fun i => ws.getD i 0).sum
def spCheck : Sp := fun vs H Q _ => ∃ (l : Addr) (n : Nat) (lot : List Nat), vs = [.ref l, .int n] ∧ H l = some (.tup (vN lot)) ∧ Asc n lot ∧ Q .non H
def spRuleInit (W : Addr) : Sp := fun vs H Q _ => ∃ (p dx : Addr) (n : Nat), vs = [.ref p, .int n] ∧ H p = some (.ins W dx []) ∧ n ≤ 24 ∧ Q .non (upd H p (.ins W dx (putF "many" (.int n) [])))
/-- a new list of fractions -/
def NewRs (R : Addr) (H : Hp) (Q : VK) (rs : List (Int × Int)) : Prop := ∀ (q : Addr) (H' : Hp), Same H H' → H q = none → LstOf (RatP R) H' q rs → Q (.ref q) H'
def spRuleShares (R W : Addr) : Sp := fun vs H Q _ => ∃ (p l : Addr) (ws : List Nat) (a : Nat) (lot : List Nat), vs = [.ref p, .ref l] ∧ WtdAt W H p ws a ∧ ws.length ≤ 24 ∧ H l = some (.tup (vN lot)) ∧ Asc ws.length lot ∧ NewRs R H Q (List.replicate ws.length (0, 1))
def spTotal (W : Addr) : Sp := fun vs H Q _ => ∃ (p l : Addr) (ws : List Nat) (a : Nat) (lot : List Nat), vs = [.ref p, .ref l] ∧ WtdAt W H p ws a ∧ H l = some (.tup (vN lot)) ∧ lot.length ≤ 1000 ∧ (∀ i ∈ lot, i < ws.length) ∧ ∀ H', Same H H' → Q (.int (tot ws a lot : Nat)) H'
section
variable {P : Program} {w : World} {K : PySem.W.Frag} {mg : Str → Option Value} {base : Heap} {R W S : Addr}
abbrev s_check_lot : Stmt := tops 16
abbrev N_check_lot : List Str := ["lot", "many", "before", "thing"]
theorem sc_check_lot : FnScope N_check_lot ["lot", "many"] (defScope s_check_lot) := ⟨rfl, rfl, rfl, by decide +kernel, rfl, by decide +kernel, by decide +kernel⟩
-- slots: 0 lot, 1 many, 2 before, 3 thing
abbrev s_Rule_init : Stmt := inClass (tops 18) 2
abbrev N_Rule_init : List Str := ["self", "many"]
theorem sc_Rule_init : FnScope N_Rule_init ["self", "many"] (defScope s_Rule_init) := ⟨rfl, rfl, rfl, by decide +kernel, rfl, by decide +kernel, by decide +kernel⟩
-- slots: 0 self, 1 many
abbrev s_Rule_shares : Stmt := inClass (tops 18) 3
abbrev N_Rule_shares : List Str := ["self", "lot", "_"]
theorem sc_Rule_shares : FnScope N_Rule_shares ["self", "lot"] (defScope s_Rule_shares) := ⟨rfl, rfl, rfl, by decide +kernel, rfl, by decide +kernel, by decide +kernel⟩
-- slots: 0 self, 1 lot, 2 _
abbrev s_Weighted_total_of : Stmt := inClass (tops 20) 1
abbrev N_Weighted_total_of : List Str := ["self", "lot", "thing"]
theorem sc_Weighted_total_of : FnScope N_Weighted_total_of ["self", "lot"] (defScope s_Weighted_total_of) := ⟨rfl, rfl, rfl, by decide +kernel, rfl, by decide +kernel, by decide +kernel⟩
-- slots: 0 self (cell), 1 lot, 2 thing
theorem ok_check_lot {f : Addr} {fd : FuncData} (F : Fun K "check_lot" "check_lot" s_check_lot f fd) : FnOk P w K mg base CX0 1 f fd ["lot", "many"] spCheck := by
  refine F.ok sc_check_lot (fun vs H Q E h => ?_) (fun cdv A outer s H vs Q E hr h => ?_)
  · obtain ⟨l, n, lot, rfl, _⟩ := h
    rfl
  · obtain ⟨l, n, lot, rfl, hl, asc, k⟩ := h
    refine ⟨_, (pss_cons (ps_set (i := 2) sc_check_lot.nd rfl (Or.inl rfl) (pe_un un_neg pe_int))
    (pss_one (ps_for PassesOwn.never rfl (pi_tup (pv 0)) (pg_name (i := 3) sc_check_lot.nd rfl (Or.inl rfl))
    (pss_cons (ps_if (PW.pt (pw_or (pt_cmpR op_le (pv 3) (pv 2) (nomark _)) (pw_or1 (pt_cmpR op_ge (pv 3) (pv 1) (nomark _))))) pss_never pss_nil)
    (pss_one (ps_set (i := 2) sc_check_lot.nd rfl (Or.inl rfl) (pv 3))))))), ?_⟩
    refine ⟨_, rfl, _, rfl, l, rfl, ⟨_, SqT.of hl⟩, for_tup (K := K) (a := l) (xs := vN lot) (fun i σ H' => ∃ v, σ = [some (.ref l), some (.int n), some (.int (bef lot i)), v] ∧ H' = H) ⟨none, rfl, rfl⟩ (fun i σ H' _ ⟨_, _, e⟩ => by rw [e]; exact SqT.of hl) ?_ ?_⟩
    · rintro i x σ H' hx ⟨v, rfl, rfl⟩
      obtain ⟨z, hz, rfl⟩ := vN_get hx
      have h1 := bef_lt asc hz
      have h2 := asc.lt z (List.mem_of_getElem? hz)
      refine ⟨_, rfl, _, rfl, _, _, rfl, rfl, _, rfl, ?_⟩
      refine ifN (by omega) ⟨_, rfl, _, rfl, _, _, rfl, rfl, _, rfl, ifN (by omega) ⟨_, rfl, some (.int z), ?_, rfl⟩⟩
      have e : bef lot (i + 1) = (z : Int) := by
        show ((lot.getD i 0 : Nat) : Int) = z
        rw [List.getD_eq_getElem?_getD, hz]
        rfl
      rw [e]
      rfl
    · rintro σ H' ⟨v, rfl, rfl⟩
      exact k
theorem ok_Rule_init {f : Addr} {fd : FuncData} (T : Tx K mg R W S) (F : Fun K "__init__" "Rule.__init__" s_Rule_init f fd) : FnOk P w K mg base CX0 1 f fd ["self", "many"] (spRuleInit W) := by
  refine F.ok sc_Rule_init (fun vs H Q E h => ?_) (fun cdv A outer s H vs Q E hr h => ?_)
  · obtain ⟨p, dx, n, rfl, _⟩ := h
    rfl
  · obtain ⟨p, dx, n, rfl, hp, hn, k⟩ := h
    obtain ⟨u, con⟩ := T.wMost
    refine ⟨_, (pss_cons (ps_if (pt_cmpR op_gt (pv 1) (pe_con (pv 0) rfl) (nomark _)) pss_never pss_nil)
    (pss_one (ps_fld (pv 0) (pv 1) rfl))), ?_⟩
    refine ⟨_, rfl, _, rfl, p, W, dx, [], _, u, rfl, hp, T.clW, con, rfl, _, _, rfl, rfl, _, rfl, ifN (by omega) ?_⟩
    exact ⟨_, rfl, _, rfl, p, W, dx, [], rfl, hp, T.clW, T.wMany, (by show 0 < 1000; decide), k⟩
theorem ok_Rule_shares {f : Addr} {fd : FuncData} (T : Tx K mg R W S) (hR1 : HR1 P w K mg base R) (h_check_lot : Has P w K mg base 1 "check_lot" ["lot", "many"] [] spCheck) (F : Fun K "shares" "Rule.shares" s_Rule_shares f fd) :
    FnOk P w K mg base CX0 43 f fd ["self", "lot"] (spRuleShares R W) := by
  refine F.ok sc_Rule_shares (fun vs H Q E h => ?_) (fun cdv A outer s H vs Q E hr h => ?_)
  · obtain ⟨p, l, ws, a, lot, rfl, _⟩ := h
    rfl
  · obtain ⟨p, l, ws, a, lot, rfl, ⟨dx, lw, hp, hw⟩, h24, hl, asc, k⟩ := h
    refine ⟨_, (pss_cons (ps_expr (pe_callH h_check_lot (hr.mono (by decide)) rfl (pa_cons (pv 1) (pa_cons (pe_fld (pv 0) rfl) pa_nil))))
    (pss_one (ps_ret (pe_lc (own := [("_", 2)]) rfl sc_Rule_shares.nd (pi_range1 rfl T.range (pa_cons (pe_fld (pv 0) rfl) pa_nil)) (blkOk_by (N := N_Rule_shares) (sc := defScope s_Rule_shares) (by decide +kernel)) (fun _ _ _ _ _ => (pg_name (i := 2) sc_Rule_shares.nd rfl (Or.inl rfl))) (fun _ _ _ _ _ => pts_nil) (fun _ _ _ _ _ => (pe_makeH hR1 (hr.mono (by decide)) rfl (pa_cons pe_int pa_nil))))))), ?_⟩
    refine ⟨_, rfl, _, rfl, p, W, dx, _, _, rfl, hp, T.clW, T.wMany, wf_many _ _ _, l, ws.length, lot, rfl, hl, asc, ?_⟩
    refine ⟨_, rfl, p, W, dx, _, _, rfl, hp, T.clW, T.wMany, wf_many _ _ _, ws.length, rfl, by omega, by omega, fun D hD => ?_⟩
    rw [Int.toNat_natCast]
    refine lc_range (lo := 0) (n := ws.length) (fun i H' => Same H H' ∧ LstOf (RatP R) H' D (List.replicate i (0, 1))) ⟨Same.new hD, [], upd_same, Each.nil⟩ ?_ ?_
    · rintro i H' hi ⟨s1, as, hD', ea⟩
      refine ⟨rfl, tyes_if ?_⟩
      refine rat_made (t := 0) (b := 1) (by decide) fun x H2 t b s2 nx rx hb lo => ?_
      refine ⟨_, s2 _ _ hD', ?_, Same.then_set (Same.trans s1 s2) hD, as ++ [x], ?_, ?_⟩
      · rw [List.length_map, ea.1, List.length_replicate, sizeLine_eq]
        omega
      · rw [upd_same, List.map_append]
        rfl
      · rw [List.replicate_succ']
        exact (ea.imp fun a r z => RatQ.ins (Ins.of_lst s2 (s2 _ _ hD')) z).snoc (RatQ.ins (Ins.of_lst (Same.refl _) (s2 _ _ hD')) ⟨t, b, rx, hb, lo⟩)
    · rintro H' ⟨s1, q⟩
      exact k D H' s1 hD q
theorem ok_Weighted_total_of {f : Addr} {fd : FuncData} (T : Tx K mg R W S) (F : Fun K "total_of" "Weighted.total_of" s_Weighted_total_of f fd) : FnOk P w K mg base CX0 1 f fd ["self", "lot"] (spTotal W) := by
  refine F.ok sc_Weighted_total_of (fun vs H Q E h => ?_) (fun cdv A outer s H vs Q E hr h => ?_)
  · obtain ⟨p, l, ws, a, lot, rfl, _⟩ := h
    rfl
  · obtain ⟨p, l, ws, a, lot, rfl, ⟨dx, lw, hp, hw⟩, hl, hlen, hlt, k⟩ := h
    refine ⟨_, (pss_one (ps_ret (pe_op op_add (pe_fld (pv 0) rfl) (pe_callB (cr_sum rfl) (by rfl) T.sum (by decide +kernel) (pa_cons (pe_lc (own := [("thing", 2)]) rfl sc_Weighted_total_of.nd (pi_tup (pv 1)) (blkOk_by (N := N_Weighted_total_of) (sc := defScope s_Weighted_total_of) (by decide +kernel)) (fun _ _ _ _ _ => (pg_name (i := 2) sc_Weighted_total_of.nd rfl (Or.inl rfl))) (fun _ _ _ _ _ => pts_nil) (fun _ _ _ _ _ => (pe_ix (ix_tupK (K := K) rfl) (pe_fldK (K := K) rfl (pv 0) rfl) (pv 2) (fun _ _ => rfl)))) pa_nil))))), ?_⟩
    refine ⟨_, rfl, p, W, dx, _, _, rfl, hp, T.clW, T.wAs, wf_aside _ _ _, ?_⟩
    refine ⟨_, rfl, l, rfl, ⟨_, SqT.of hl⟩, fun D hD => ?_⟩
    refine lc_tup (K := K) (a := l) (xs := vN lot) (fun i H' => Same H H' ∧ H' D = some (.lst ((lot.take i).map fun j => V.int ((ws.getD j 0 : Nat) : Int)))) ⟨Same.new hD, upd_same⟩ (fun i H' _ q => SqT.of (q.1 _ _ hl)) ?_ ?_
    · rintro i x H' hx ⟨s1, hD'⟩
      obtain ⟨z, hz, rfl⟩ := vN_get hx
      have hzl := hlt z (List.mem_of_getElem? hz)
      refine ⟨rfl, tyes_if ?_⟩
      refine ⟨_, rfl, p, W, dx, _, _, rfl, s1 _ _ hp, T.clW, T.wWei, wf_weights _ _ _, _, rfl, lw, _, _, _, rfl, rfl, SqT.of (s1 _ _ hw), atI_nat (vN_at (List.getElem?_eq_getElem hzl)), ?_⟩
      refine ⟨_, hD', ?_, Same.then_set s1 hD, ?_⟩
      · rw [List.length_map, List.length_take, sizeLine_eq]
        omega
      · have e : lot.take (i + 1) = lot.take i ++ [z] := by
          obtain ⟨hi, e⟩ := List.getElem?_eq_some_iff.mp hz
          rw [List.take_succ_eq_append_getElem hi, e]
        rw [upd_same, e, List.map_append]
        have e2 : ws.getD z 0 = ws[z] := by
          rw [List.getD_eq_getElem?_getD, List.getElem?_eq_getElem hzl]
          rfl
        show some (HO.lst (_ ++ [V.int ((ws[z] : Nat) : Int)])) = some (HO.lst (_ ++ [V.int ((ws.getD z 0 : Nat) : Int)]))
        rw [e2]
    · rintro H' ⟨s1, hD'⟩
      rw [vN_len, List.take_length] at hD'
      refine ⟨D, lot.map fun j => ((ws.getD j 0 : Nat) : Int), rfl, SqL.of (by rw [hD', List.map_map]; rfl), _, _, rfl, rfl, ?_⟩
      have e : ((a : Int) + (lot.map fun j => ((ws.getD j 0 : Nat) : Int)).sum) = ((tot ws a lot : Nat) : Int) := by
        have key : ∀ l : List Nat, (l.map fun j => ((ws.getD j 0 : Nat) : Int)).sum = (((l.map fun j => ws.getD j 0).sum : Nat) : Int) := by
          intro l
          induction l with
          | nil => rfl
          | cons x r ih => rw [List.map_cons, List.sum_cons, ih, List.map_cons, List.sum_cons, Int.natCast_add]
        rw [key]
        show _ = ((a + _ : Nat) : Int)
        rw [Int.natCast_add]
      show Q (V.int ((a : Int) + (lot.map fun j => ((ws.getD j 0 : Nat) : Int)).sum)) H'
      rw [e]
      exact k H' s1
end
end Dl

namespace Dl
open PySem PySem.Spec PyProof.Rows L2
/-- every number of the rule is at least 1 -/
def Pos1 (ws : List Nat) (a : Nat) : Prop := 1 ≤ a ∧ ∀ w ∈ ws, 1 ≤ w
def spWInit (W : Addr) : Sp := fun vs H Q _ => ∃ (p dx l : Addr) (ws : List Nat) (a : Nat), vs = [.ref p, .ref l, .int a] ∧ H p = some (.ins W dx []) ∧ H l = some (.lst (vN ws)) ∧ Pos1 ws a ∧ ws.length ≤ 24 ∧
  ∀ H' : Hp, WtdAt W H' p ws a → (∀ c o, H c = some o → c ≠ p → H' c = some o) → Q .non H'
/-- a loop over enumerate of a list -/
theorem for_enum {K : PySem.W.Frag} {a : Addr} {xs : List V} {g : TG} {tb : TS} {D : Ends} {σ : L2.St} {H : Hp} (Pv : Nat → L2.St → Hp → Prop) (h0 : Pv 0 σ H) (hq : ∀ i σ H, Pv i σ H → SqL K H a xs)
    (hs : ∀ (i : Nat) (x : V) (T : Addr) (σ : L2.St) (H : Hp), xs[i]? = some x → Pv i σ H → H T = none → g (.ref T) σ (upd H T (.tup [.int (i : Nat), x])) fun σ2 H2 => tb { D with nx := Pv (i + 1), ct := Pv (i + 1), bk := D.nx } σ2 H2) (hd : ∀ σ H, Pv xs.length σ H → D.nx σ H) :
    ∃ W : Nat → Nat → L2.St → Hp → Prop, (∃ m, W 0 m σ H) ∧ ∀ i m σ H, W i m σ H →
      ((Ite K a).stop i H ∧ D.nx σ H) ∨ ((Ite K a).go i H ∧ ∃ N : L2.St → Hp → Prop, (∀ σ' H', N σ' H' → ∃ m', m' < m ∧ W (i + 1) m' σ' H') ∧ ∀ v H', (Ite K a).yld i H v H' → g v σ H' fun σ2 H2 => tb { D with nx := N, ct := N, bk := D.nx } σ2 H2) := by
  refine ⟨fun i m σ H => m = xs.length - i ∧ i ≤ xs.length ∧ Pv i σ H, ⟨xs.length, rfl, Nat.zero_le _, h0⟩, ?_⟩
  rintro i m σ H ⟨rfl, hi, p⟩
  have qx := hq i σ H p
  by_cases hlt : i < xs.length
  · have hx : xs[i]? = some xs[i] := List.getElem?_eq_getElem hlt
    refine .inr ⟨⟨xs, _, qx, hx⟩, Pv (i + 1), fun σ' H' p' => ⟨xs.length - (i + 1), by omega, rfl, hlt, p'⟩, fun v H' y => ?_⟩
    obtain ⟨T, x', rfl, hT, rfl, f1⟩ := y
    exact hs i x' T σ H (f1 xs qx) p hT
  · have e : i = xs.length := by omega
    subst e
    exact .inl ⟨⟨xs, qx, Nat.le_refl _⟩, hd σ H p⟩
section
variable {P : Program} {w : World} {K : PySem.W.Frag} {mg : Str → Option Value} {base : Heap} {R W S D : Addr}
abbrev s_Weighted_init : Stmt := inClass (tops 20) 0
abbrev N_Weighted_init : List Str := ["self", "weights", "aside", "__class__", "at", "weight"]
theorem sc_Weighted_init : NdefX.NScope N_Weighted_init ["self", "weights", "aside"] ["__class__"] (defScope s_Weighted_init) := NdefX.nscope_by (by decide +kernel)
-- slots: 0 self, 1 weights, 2 aside, 3 __class__, 4 at, 5 weight
theorem ok_Weighted_init {f fm cda cc : Addr} {fd fdm : FuncData} (T : Tx K mg R W S) (htop : (P.main.scope.names.lookup ("super" : Str)).isSome = false) (U : Sup P K "__init__" "Weighted.__init__" s_Weighted_init f fd cda cc D) (BS : SupC K mg W D "__init__" fm)
    (FS : FnOk P w K mg base CX0 1 fm fdm ["self", "many"] (spRuleInit W)) (bS : Binds K fdm ["self", "many"] []) : FnOk P w K mg base CX0 2 f fd ["self", "weights", "aside"] (spWInit W) ∧ Binds K fd ["self", "weights", "aside"] [] := by
  refine U.ok sc_Weighted_init (fun kV doc pm ct an us hl => match us, hl with | [_, _, _], _ => rfl) (fun vs H Q E h => ?_) (fun A outer s H vs Q E hr h => ?_)
  · obtain ⟨p, dx, l, ws, a, rfl, _⟩ := h
    rfl
  · obtain ⟨p, dx, l, ws, a, rfl, hp, hl, pos, h24, k⟩ := h
    refine ⟨_, (psa_cons (psa_expr (pea_super U BS FS bS (hr.mono (by decide)) rfl rfl rfl rfl rfl rfl htop (by decide) (pa_cons (pe_callB call_len (by rfl) T.len (by decide +kernel) (pa_cons (pv 1) pa_nil)) pa_nil) rfl rfl rfl))
    (pss_cons (ps_for PassesOwn.never rfl (pi_enum (by rfl) T.enumerate (pa_cons (pv 1) pa_nil)) (pg_tup rfl (pgs_cons (pg_name (i := 4) sc_Weighted_init.nd rfl (Or.inl rfl)) (pgs_cons (pg_name (i := 5) sc_Weighted_init.nd rfl (Or.inl rfl)) pgs_nil)))
    (pss_one (ps_if (pt_cmpR op_lt (pv 5) pe_int (nomark _)) pss_never pss_nil)))
    (pss_cons (ps_if (pt_cmpR op_lt (pv 2) pe_int (nomark _)) pss_never pss_nil)
    (pss_cons (ps_fld (pv 0) (pe_callTy call_tuple_of (by rfl) T.tuple (by decide +kernel) (pa_cons (pv 1) pa_nil)) rfl)
    (pss_one (ps_fld (pv 0) (pv 2) rfl)))))), ?_⟩
    refine ⟨p, dx, [], rfl, hp, ?_⟩
    refine ⟨_, rfl, _, ws.length, rfl, .inl ⟨_, SqL.of hl, (vN_len ws).symm⟩, p, dx, _, rfl, hp, h24, ?_⟩
    have nlp : l ≠ p := fun z => by rw [z, hp] at hl; cases hl
    refine ⟨_, rfl, l, vN ws, rfl, SqL.of (by rw [upd_ne nlp]; exact hl), ?_⟩
    refine for_enum (xs := vN ws) (fun i σ H' => ∃ v4 v5, σ = [some (.ref p), some (.ref l), some (.int a), some (.ref D), v4, v5] ∧ H' p = some (.ins W dx (putF "many" (.int ws.length) [])) ∧ ∀ c o, H c = some o → c ≠ p → H' c = some o)
      ⟨none, none, rfl, upd_same, fun c o e hc => by rw [upd_ne hc]; exact e⟩ ?_ ?_ ?_
    · rintro i σ H' ⟨v4, v5, rfl, h1, h2⟩
      exact SqL.of (h2 _ _ hl nlp)
    · rintro i x T' σ H' hx ⟨v4, v5, rfl, h1, h2⟩ hT
      obtain ⟨z, hz, rfl⟩ := vN_get hx
      have hz1 := pos.2 z (List.mem_of_getElem? hz)
      refine ⟨T', _, rfl, SqT.of upd_same, rfl, _, _, rfl, _, _, rfl, rfl, ?_⟩
      refine ⟨_, rfl, _, _, rfl, rfl, _, rfl, ifN (by omega) ⟨_, _, rfl, ?_, fun c o e hc => ?_⟩⟩
      · rw [upd_ne (ne_of_none h1 hT)]; exact h1
      · rw [upd_ne (ne_of_none (h2 c o e hc) hT)]; exact h2 c o e hc
    · rintro σ H' ⟨v4, v5, rfl, h1, h2⟩
      have hl2 := h2 _ _ hl nlp
      refine ⟨_, rfl, _, _, rfl, rfl, _, rfl, ifN (by have := pos.1; omega) ?_⟩
      refine ⟨_, rfl, l, vN ws, rfl, .inl ⟨SqL.of hl2, fun q hq => ?_⟩⟩
      have nqp : p ≠ q := ne_of_none h1 hq
      refine ⟨_, rfl, p, W, dx, _, rfl, by rw [upd_ne nqp]; exact h1, T.clW, T.wWei, (by show 1 < 1000; decide), ?_⟩
      refine ⟨_, rfl, _, rfl, p, W, dx, _, rfl, upd_same, T.clW, T.wAs, (by show 2 < 1000; decide), ?_⟩
      refine k _ ⟨dx, q, upd_same, ?_⟩ fun c o e hc => ?_
      · rw [upd_ne (Ne.symm nqp), upd_ne (Ne.symm nqp), upd_same]
      · rw [upd_ne hc, upd_ne hc, upd_ne (ne_of_none (h2 c o e hc) hq)]; exact h2 c o e hc
end
end Dl

namespace Dl
open PySem PySem.Spec PyProof.Rows L2
/-- the shares as written: weight over total for the things of the lot, 0 over 1 for the others -/
def shL (ws : List Nat) (t : Nat) (lot : List Nat) : List (Int × Int) := (List.range ws.length).map fun j => if j ∈ lot then ((ws.getD j 0 : Nat), (t : Nat)) else (0, 1)
theorem shL_len (ws : List Nat) (t : Nat) (lot : List Nat) : (shL ws t lot).length = ws.length := by unfold shL; simp
theorem shL_nil (ws : List Nat) (t : Nat) : shL ws t [] = List.replicate ws.length (0, 1) := by
  unfold shL
  apply List.ext_getElem? 
  intro i
  simp [List.getElem?_replicate, List.getElem?_range]
  by_cases h : i < ws.length <;> simp [h]
theorem shL_get {ws : List Nat} {t : Nat} {lot : List Nat} {j : Nat} (h : j < ws.length) : (shL ws t lot)[j]? = some (if j ∈ lot then (((ws.getD j 0 : Nat) : Int), ((t : Nat) : Int)) else (0, 1)) := by
  unfold shL
  rw [List.getElem?_map, List.getElem?_range h]
  rfl
theorem shL_set {ws : List Nat} {t : Nat} {lot : List Nat} {z : Nat} (h : z < ws.length) : (shL ws t lot).set z (((ws.getD z 0 : Nat) : Int), ((t : Nat) : Int)) = shL ws t (lot ++ [z]) := by
  apply List.ext_getElem?
  intro i
  by_cases hi : i < ws.length
  · rw [List.getElem?_set, shL_len, shL_get hi, shL_get hi]
    by_cases e : z = i
    · subst e
      rw [if_pos rfl, if_pos h, if_pos (List.mem_append_right _ (List.mem_singleton.mpr rfl))]
    · rw [if_neg e]
      have : (i ∈ lot ++ [z]) ↔ i ∈ lot := by simp; intro e2; exact absurd e2.symm e
      simp only [this]
  · rw [List.getElem?_eq_none (by rw [List.length_set, shL_len]; omega), List.getElem?_eq_none (by rw [shL_len]; omega)]
theorem ixN_nat {n i : Nat} (h : i < n) : ixN n (i : Int) = some i := by
  unfold ixN
  simp [h]
def spShares (R W : Addr) : Sp := fun vs H Q _ => ∃ (p l : Addr) (ws : List Nat) (a : Nat) (lot : List Nat), vs = [.ref p, .ref l] ∧ WtdAt W H p ws a ∧ 1 ≤ a ∧ ws.length ≤ 24 ∧ H l = some (.tup (vN lot)) ∧ Asc ws.length lot ∧ NewRs R H Q (shL ws (tot ws a lot) lot)
theorem tot_pos {ws : List Nat} {a : Nat} {lot : List Nat} (h : 1 ≤ a) : 1 ≤ tot ws a lot := by unfold tot; omega
/-- what is left for those who go away -/
def AwayT (ws : List Nat) (a : Nat) (lot : List Nat) (t b : Int) : Prop := t * (tot ws a lot : Nat) = (a : Nat) * b ∧ b.natAbs ≤ tot ws a lot ^ ws.length ∧ t.natAbs ≤ tot ws a lot ^ ws.length
def spAway (R W : Addr) : Sp := fun vs H Q _ => ∃ (p l : Addr) (ws : List Nat) (a : Nat) (lot : List Nat), vs = [.ref p, .ref l] ∧ WtdAt W H p ws a ∧ 1 ≤ a ∧ ws.length ≤ 24 ∧ tot ws a lot < 2 ^ 10000 ∧ H l = some (.tup (vN lot)) ∧ Asc ws.length lot ∧ NewR R H Q (AwayT ws a lot)
/-- a new rule -/
def NewW (W : Addr) (H : Hp) (Q : VK) (P : List Nat → Nat → Prop) : Prop := ∀ (x : Addr) (H' : Hp) (ws : List Nat) (a : Nat), Same H H' → H x = none → WtdAt W H' x ws a → P ws a → Q (.ref x) H'
/-- the same weights, all divided by one number -/
def Divd (ws : List Nat) (a : Nat) (ws' : List Nat) (a' : Nat) : Prop := ∃ g, 0 < g ∧ a = g * a' ∧ ws = ws'.map fun z => g * z
def spReduced (W : Addr) : Sp := fun vs H Q _ => ∃ (p : Addr) (ws : List Nat) (a : Nat), vs = [.ref p] ∧ WtdAt W H p ws a ∧ Pos1 ws a ∧ ws.length ≤ 24 ∧ NewW W H Q (fun ws' a' => Divd ws a ws' a' ∧ Pos1 ws' a')
theorem wtd_made {W : Addr} {H : Hp} {Q : Addr → Hp → Prop} {l : Addr} {ws : List Nat} {a : Nat} (hl : H l = some (.lst (vN ws))) (pos : Pos1 ws a) (h24 : ws.length ≤ 24) (h : ∀ (x : Addr) (H' : Hp), Same H H' → H x = none → WtdAt W H' x ws a → Q x H') :
    ∀ x dx, H x = none → H dx = none → dx ≠ x → spWInit W (.ref x :: [.ref l, .int a]) (upd (upd H dx (.own x)) x (.ins W dx [])) (fun v H2 => v = .non ∧ Q x H2) E0 := by
  intro x dx nx ndx ne
  refine ⟨x, dx, l, ws, a, rfl, upd_same, ?_, pos, h24, fun H' r k => ⟨rfl, h x H' (Same.made nx ndx fun b o e hb => k b o e hb) nx r⟩⟩
  rw [upd_ne (ne_of_none hl nx), upd_ne (ne_of_none hl ndx)]
  exact hl
/-- the sum over the first things is the sum over the lot -/
theorem sum_mem (f : Nat → Nat) (n : Nat) : ∀ lot : List Nat, lot.Nodup → (∀ i ∈ lot, i < n) → ((List.range n).map fun j => if j ∈ lot then f j else 0).sum = (lot.map f).sum := by
  have key : ∀ (z : Nat) (lot : List Nat), z ∉ lot → ∀ m, ((List.range m).map fun j => if j ∈ z :: lot then f j else 0).sum = ((List.range m).map fun j => if j ∈ lot then f j else 0).sum + (if z < m then f z else 0) := by
    intro z lot hz m
    induction m with
    | zero => rfl
    | succ m ih =>
      rw [List.range_succ, List.map_append, List.map_append, List.sum_append, List.sum_append, ih]
      simp only [List.map_cons, List.map_nil, List.sum_cons, List.sum_nil]
      by_cases e : z = m
      · subst e
        simp [hz]
      · have : m ∈ z :: lot ↔ m ∈ lot := by simp; intro e2; exact absurd e2.symm e
        simp only [this]
        have : (z < m + 1) ↔ z < m := by omega
        simp only [this]
        omega
  intro lot
  induction lot with
  | nil =>
    intro _ _
    have : ∀ m, ((List.range m).map fun j => if j ∈ ([] : List Nat) then f j else 0).sum = 0 := by
      intro m
      induction m with
      | zero => rfl
      | succ m ih => rw [List.range_succ, List.map_append, List.sum_append, ih]; rfl
    exact this n
  | cons z r ih =>
    intro hd hlt
    rw [key z r (List.nodup_cons.mp hd).1 n, ih (List.nodup_cons.mp hd).2 fun i hi => hlt i (List.mem_cons_of_mem _ hi), if_pos (hlt z List.mem_cons_self), List.map_cons, List.sum_cons]
    omega
theorem Asc.nodup {n : Nat} {lot : List Nat} (h : Asc n lot) : lot.Nodup := h.up.imp fun h => Nat.ne_of_lt h
/-- the sum over the first i things of those in the lot -/
def part (ws lot : List Nat) (i : Nat) : Nat := ((List.range i).map fun j => if j ∈ lot then ws.getD j 0 else 0).sum
theorem part_succ (ws lot : List Nat) (i : Nat) : part ws lot (i + 1) = part ws lot i + (if i ∈ lot then ws.getD i 0 else 0) := by
  unfold part
  rw [List.range_succ, List.map_append, List.sum_append]
  simp
theorem part_mono (ws lot : List Nat) {i j : Nat} (h : i ≤ j) : part ws lot i ≤ part ws lot j := by
  induction h with
  | refl => exact Nat.le_refl _
  | step h ih => rw [part_succ]; omega
theorem part_all {ws lot : List Nat} (h : Asc ws.length lot) (a : Nat) : a + part ws lot ws.length = tot ws a lot := by
  unfold part tot
  rw [sum_mem _ _ lot h.nodup h.lt]
theorem pw_cap {n : Int} {T i k : Nat} (hT : T < 2 ^ k) (hi : i ≤ 24) (hk : k * 24 + 1 ≤ 40000000) (h : n.natAbs ≤ T ^ i) : Cp n := by
  have h1 : T ^ i ≤ 2 ^ (k * i) := by
    rw [Nat.pow_mul]
    exact Nat.pow_le_pow_left (Nat.le_of_lt hT) i
  have h2 : k * i ≤ k * 24 := Nat.mul_le_mul_left _ hi
  refine bd_le (k := k * i + 1) ?_ (Nat.le_trans (Nat.add_le_add_right h2 1) hk)
  exact Nat.lt_of_le_of_lt (Nat.le_trans h h1) (Nat.pow_lt_pow_right (by decide) (Nat.lt_succ_self _))
/-- a share of the list, in smaller numbers -/
theorem share_eq {T c : Nat} {x y t2 b2 : Int} (hT : 1 ≤ T) (hxy : (x = c ∧ y = T) ∨ (c = 0 ∧ x = 0 ∧ y = 1)) (lo : Lows x y t2 b2) : t2 * (T : Nat) = (c : Nat) * b2 ∧ b2.natAbs ≤ T ∧ t2.natAbs ≤ c := by
  obtain ⟨e, h1, h2⟩ := lo
  rcases hxy with ⟨rfl, rfl⟩ | ⟨rfl, rfl, rfl⟩
  · exact ⟨e, by omega, by omega⟩
  · have : t2 = 0 := by omega
    subst this
    exact ⟨by simp, by omega, by omega⟩
theorem frac_le {T s : Nat} {t b : Int} (hT : 1 ≤ T) (hb : 0 < b) (hs : s ≤ T) (e : t * (T : Nat) = ((T : Nat) - (s : Nat)) * b) : t.natAbs ≤ b.natAbs := by
  have h0 : 0 ≤ t := by
    rcases Int.lt_or_le t 0 with h | h
    · have h1 : t * (T : Nat) < 0 := Int.mul_neg_of_neg_of_pos h (by omega)
      have h2 : 0 ≤ ((T : Int) - (s : Nat)) * b := Int.mul_nonneg (by omega) (by omega)
      omega
    · exact h
  have h1 : t ≤ b := by
    have h2 : ((T : Int) - (s : Nat)) * b ≤ (T : Int) * b := Int.mul_le_mul_of_nonneg_right (by omega) (by omega)
    rw [← e, Int.mul_comm] at h2
    exact Int.le_of_mul_le_mul_left h2 (by omega)
  omega
theorem away_step {T s c i : Nat} {t b t2 b2 t' b' : Int} (hb : 0 < b) (hb2 : 0 < b2) (hbi : b.natAbs ≤ T ^ i) (e : t * (T : Nat) = ((T : Nat) - (s : Nat)) * b) (e2 : t2 * (T : Nat) = (c : Nat) * b2) (h2 : b2.natAbs ≤ T) (lo : Lows (t * b2 - t2 * b) (b * b2) t' b') :
    b'.natAbs ≤ T ^ (i + 1) ∧ t' * (T : Nat) = ((T : Nat) - ((s + c : Nat) : Nat)) * b' := by
  obtain ⟨q, _, q2⟩ := lo
  refine ⟨?_, ?_⟩
  · rw [Int.natAbs_mul] at q2
    rw [Nat.pow_succ]
    exact Nat.le_trans q2 (Nat.mul_le_mul hbi h2)
  · have hp : b * b2 ≠ 0 := Int.ne_of_gt (Int.mul_pos hb hb2)
    apply Int.eq_of_mul_eq_mul_right hp
    have : ((s + c : Nat) : Int) = (s : Int) + c := Int.natCast_add s c
    rw [this]
    grind
section
variable {P : Program} {w : World} {K : PySem.W.Frag} {mg : Str → Option Value} {base : Heap} {R W S D : Addr}
abbrev s_Weighted_shares : Stmt := inClass (tops 20) 2
abbrev N_Weighted_shares : List Str := ["self", "lot", "__class__", "row", "total", "thing"]
theorem sc_Weighted_shares : NdefX.NScope N_Weighted_shares ["self", "lot"] ["__class__"] (defScope s_Weighted_shares) := NdefX.nscope_by (by decide +kernel)
-- slots: 0 self, 1 lot, 2 __class__, 3 row, 4 total, 5 thing
abbrev s_Rule_away : Stmt := inClass (tops 18) 4
abbrev N_Rule_away : List Str := ["self", "lot", "left", "share"]
theorem sc_Rule_away : FnScope N_Rule_away ["self", "lot"] (defScope s_Rule_away) := ⟨rfl, rfl, rfl, by decide +kernel, rfl, by decide +kernel, by decide +kernel⟩
-- slots: 0 self, 1 lot, 2 left, 3 share
abbrev s_Weighted_reduced : Stmt := inClass (tops 20) 4
abbrev N_Weighted_reduced : List Str := ["self", "shared", "weight"]
theorem sc_Weighted_reduced : FnScope N_Weighted_reduced ["self"] (defScope s_Weighted_reduced) := ⟨rfl, rfl, rfl, by decide +kernel, rfl, by decide +kernel, by decide +kernel⟩
-- slots: 0 self, 1 shared (cell), 2 weight
theorem ok_Weighted_shares {f fm cda cc : Addr} {fd fdm : FuncData} (T : Tx K mg R W S) (htop : (P.main.scope.names.lookup ("super" : Str)).isSome = false) (hR2 : HR2 P w K mg base R) (hW_total_of : HasM P w K mg base 1 W "total_of" ["self", "lot"] (spTotal W)) (U : Sup P K "shares" "Weighted.shares" s_Weighted_shares f fd cda cc D) (BS : SupC K mg W D "shares" fm)
    (FS : FnOk P w K mg base CX0 43 fm fdm ["self", "lot"] (spRuleShares R W)) (bS : Binds K fdm ["self", "lot"] []) : FnOk P w K mg base CX0 44 f fd ["self", "lot"] (spShares R W) ∧ Binds K fd ["self", "lot"] [] := by
  refine U.ok sc_Weighted_shares (fun kV doc pm ct an us hl => match us, hl with | [_, _], _ => rfl) (fun vs H Q E h => ?_) (fun A outer s H vs Q E hr h => ?_)
  · obtain ⟨p, l, ws, a, lot, rfl, _⟩ := h
    rfl
  · obtain ⟨p, l, ws, a, lot, rfl, ⟨dx, lw, hp, hw⟩, ha, h24, hl, asc, k⟩ := h
    refine ⟨_, (psa_cons (psa_set (i := 3) sc_Weighted_shares.nd rfl rfl (pea_super U BS FS bS (hr.mono (by decide)) rfl rfl rfl rfl rfl rfl htop (by decide) (pa_cons (pv 1) pa_nil) rfl rfl rfl))
    (pss_cons (ps_set (i := 4) sc_Weighted_shares.nd rfl (Or.inl rfl) (pe_methH (pv 0) T.clW hW_total_of (hr.mono (by decide)) (pa_cons (pv 1) pa_nil)))
    (pss_cons (ps_for PassesOwn.never rfl (pi_tup (pv 1)) (pg_name (i := 5) sc_Weighted_shares.nd rfl (Or.inl rfl))
    (pss_one (ps_asg (pe_makeH hR2 (hr.mono (by decide)) rfl (pa_cons (pe_ix ix_tup (pe_fld (pv 0) rfl) (pv 5) (fun _ _ => rfl)) (pa_cons (pv 4) pa_nil))) (pg_sub (pv 3) (pv 5) set_list))))
    (pss_one (ps_ret (pv 3)))))), ?_⟩
    refine ⟨p, dx, _, rfl, hp, ?_⟩
    refine ⟨_, rfl, p, l, ws, a, lot, rfl, ⟨dx, lw, hp, hw⟩, h24, hl, asc, fun D0 H1 s1 hD ⟨as0, hD1, ea0⟩ => ?_⟩
    refine ⟨_, rfl, p, dx, _, rfl, s1 _ _ hp, wf_no _ _ _ (by decide +kernel) (by decide +kernel) (by decide +kernel), _, rfl, p, l, ws, a, lot, rfl, WtdAt.same s1 ⟨dx, lw, hp, hw⟩, s1 _ _ hl, by have := asc.len; omega, asc.lt, fun H2 s2 => ?_⟩
    refine ⟨_, rfl, l, rfl, ⟨_, SqT.of (s2 _ _ (s1 _ _ hl))⟩, ?_⟩
    refine for_tup (K := K) (a := l) (xs := vN lot) (fun i σ H' => ∃ v as, σ = [some (.ref p), some (.ref l), some (.ref D), some (.ref D0), some (.int (tot ws a lot : Nat)), v] ∧ Same H H' ∧ H' D0 = some (.lst (as.map V.ref)) ∧ Each (RatP R) H' as (shL ws (tot ws a lot) (lot.take i)))
      ⟨none, as0, rfl, s1.trans s2, s2 _ _ hD1, ?_⟩ (fun i σ H' _ ⟨_, _, _, q, _⟩ => SqT.of (q _ _ hl)) ?_ ?_
    · rw [List.take_zero, shL_nil]
      exact ea0.imp fun _ _ z => RatQ.same s2 z
    · rintro i x σ H' hx ⟨v, as, rfl, s3, hD3, ea⟩
      obtain ⟨z, hz, rfl⟩ := vN_get hx
      have hzl := asc.lt z (List.mem_of_getElem? hz)
      refine ⟨_, rfl, p, W, dx, _, _, rfl, s3 _ _ hp, T.clW, T.wWei, wf_weights _ _ _, _, rfl, lw, _, _, _, rfl, rfl, SqT.of (s3 _ _ hw), atI_nat (vN_at (List.getElem?_eq_getElem hzl)), _, rfl, ?_⟩
      refine rat_made (by have := tot_pos (ws := ws) (lot := lot) ha; omega) fun q H4 t b s4 nq rq hb lo => ?_
      refine ⟨_, rfl, _, rfl, D0, _, _, z, rfl, rfl, s4 _ _ hD3, by rw [List.length_map, ea.1, shL_len]; exact ixN_nat hzl, ?_⟩
      refine ⟨_, as.set z q, rfl, Same.then_set (s3.trans s4) hD, ?_, ?_⟩
      · rw [upd_same, List.map_set]
      · have e : lot.take (i + 1) = lot.take i ++ [z] := by
          obtain ⟨hi, e⟩ := List.getElem?_eq_some_iff.mp hz
          rw [List.take_succ_eq_append_getElem hi, e]
        rw [e, ← shL_set hzl]
        refine (ea.imp fun a r z => RatQ.ins (Ins.of_lst s4 (s4 _ _ hD3)) z).set z ?_
        refine RatQ.ins (Ins.of_lst (Same.refl _) (s4 _ _ hD3)) ⟨t, b, rq, hb, ?_⟩
        rw [List.getD_eq_getElem?_getD, List.getElem?_eq_getElem hzl]
        exact lo
    · rintro σ H' ⟨v, as, rfl, s3, hD3, ea⟩
      rw [vN_len, List.take_length] at ea
      exact ⟨_, rfl, k D0 H' s3 hD ⟨as, hD3, ea⟩⟩
theorem ok_Rule_away {f : Addr} {fd : FuncData} (T : Tx K mg R W S) (hR1 : HR1 P w K mg base R) (hsub : HasO P w K mg base 43 R .Sub ["self", "other"] (spSub R)) (hW_shares : HasM P w K mg base 44 W "shares" ["self", "lot"] (spShares R W)) (F : Fun K "away" "Rule.away" s_Rule_away f fd) :
    FnOk P w K mg base CX0 45 f fd ["self", "lot"] (spAway R W) := by
  refine F.ok sc_Rule_away (fun vs H Q E h => ?_) (fun cdv A outer s H vs Q E hr h => ?_)
  · obtain ⟨p, l, ws, a, lot, rfl, _⟩ := h
    rfl
  · obtain ⟨p, l, ws, a, lot, rfl, ⟨dx, lw, hp, hw⟩, ha, h24, hbig, hl, asc, k⟩ := h
    refine ⟨_, (pss_cons (ps_set (i := 2) sc_Rule_away.nd rfl (Or.inl rfl) (pe_makeH hR1 (hr.mono (by decide)) rfl (pa_cons pe_int pa_nil)))
    (pss_cons (ps_for PassesOwn.never rfl (pi_list (pe_methH (pv 0) T.clW hW_shares (hr.mono (by decide)) (pa_cons (pv 1) pa_nil))) (pg_name (i := 3) sc_Rule_away.nd rfl (Or.inl rfl))
    (pss_one (ps_set (i := 2) sc_Rule_away.nd rfl (Or.inl rfl) (pe_op (op_ownH hsub (hr.mono (by decide))) (pv 2) (pv 3)))))
    (pss_one (ps_ret (pv 2))))), ?_⟩
    refine rat_made (t := 1) (b := 1) (by decide) fun q H1 t0 b0 s1 nq rq hb0 lo0 => ?_
    refine ⟨_, rfl, p, dx, _, rfl, s1 _ _ hp, wf_no _ _ _ (by decide +kernel) (by decide +kernel) (by decide +kernel), _, rfl, p, l, ws, a, lot, rfl, WtdAt.same s1 ⟨dx, lw, hp, hw⟩, ha, h24, s1 _ _ hl, asc, fun D0 H2 s2 hD ⟨as0, hD1, ea0⟩ => ?_⟩
    have hT := tot_pos (ws := ws) (lot := lot) ha
    have hall := part_all asc a
    refine ⟨D0, rfl, ⟨_, SqL.of hD1⟩, ?_⟩
    refine for_list (K := K) (a := D0) (xs := as0.map V.ref) (fun i σ H' => ∃ v q t b, σ = [some (.ref p), some (.ref l), some (.ref q), v] ∧ Same H2 H' ∧ H q = none ∧ RatAt R H' q t b ∧ 0 < b ∧ b.natAbs ≤ tot ws a lot ^ i ∧ t * (tot ws a lot : Nat) = ((tot ws a lot : Nat) - (part ws lot i : Nat)) * b)
      ⟨none, q, t0, b0, rfl, Same.refl _, nq, rq.same s2, hb0, ?_, ?_⟩ (fun i σ H' _ ⟨_, _, _, _, _, s3, _⟩ => SqL.of (s3 _ _ hD1)) ?_ ?_
    · exact lo0.2.2
    · have e := lo0.1
      have : t0 = b0 := by omega
      subst this
      show t0 * _ = (_ - ((0 : Nat) : Int)) * t0
      rw [Int.natCast_zero, Int.sub_zero, Int.mul_comm]
    · rintro i x σ H' hx ⟨v, q, t, b, rfl, s3, nq, rq, hb, hbi, e⟩
      obtain ⟨c, r, rfl, hc, hr', rat⟩ := ea0.get hx
      have hi : i < ws.length := by
        have := (List.getElem?_eq_some_iff.mp hr').1
        rw [shL_len] at this
        exact this
      rw [shL_get hi] at hr'
      obtain ⟨t2, b2, ⟨d2, hc2⟩, hb2, lo2⟩ := rat
      have hn : i ≤ 24 := by omega
      have hs1 : part ws lot i ≤ tot ws a lot := by have := part_mono ws lot (i := i) (j := ws.length) (by omega); omega
      have hs2 : part ws lot (i + 1) ≤ tot ws a lot := by have := part_mono ws lot (i := i + 1) (j := ws.length) (by omega); omega
      rw [part_succ] at hs2
      obtain ⟨f1, f2, f3⟩ := share_eq (c := if i ∈ lot then ws.getD i 0 else 0) hT (by
        by_cases hm : i ∈ lot
        · rw [if_pos hm] at hr'
          obtain ⟨rfl⟩ := hr'
          rw [if_pos hm]
          exact .inl ⟨rfl, rfl⟩
        · rw [if_neg hm] at hr'
          obtain ⟨rfl⟩ := hr'
          rw [if_neg hm]
          exact .inr ⟨rfl, rfl, rfl⟩) lo2
      have htb := frac_le hT hb hs1 e
      have c1 : Cp t := pw_cap hbig hn (by decide) (Nat.le_trans htb hbi)
      have c2 : Cp b := pw_cap hbig hn (by decide) hbi
      have c3 : Cp t2 := pw_cap (i := 1) hbig (by decide) (by decide) (by rw [Nat.pow_one]; omega)
      have c4 : Cp b2 := pw_cap (i := 1) hbig (by decide) (by decide) (by rw [Nat.pow_one]; exact f2)
      obtain ⟨d1, hq1⟩ := rq
      refine ⟨_, rfl, _, rfl, q, c, d1, _, d2, _, rfl, rfl, hq1, s3 _ _ hc2, q, c, t, b, t2, b2, rfl, ⟨⟨d1, hq1⟩, ⟨d2, s3 _ _ hc2⟩, hb, hb2, c1, c2, c3, c4⟩, fun x H4 t' b' s4 nx rx hb' lo => ?_⟩
      obtain ⟨g1, g2⟩ := away_step hb hb2 hbi e f1 f2 lo
      rw [part_succ]
      exact ⟨_, x, t', b', rfl, s3.trans s4, Same.free (s1.trans (s2.trans s3)) nx, rx, hb', g1, g2⟩
    · rintro σ H' ⟨v, q, t, b, rfl, s3, nq, rq, hb, hbi, e⟩
      rw [List.length_map, ea0.1, shL_len] at e hbi
      refine ⟨_, rfl, k q H' t b (s1.trans (s2.trans s3)) nq rq hb ⟨?_, hbi, ?_⟩⟩
      · rw [e]
        have : ((tot ws a lot : Nat) : Int) = (a : Int) + (part ws lot ws.length : Nat) := by omega
        rw [this]
        congr 1
        omega
      · exact Nat.le_trans (frac_le hT hb (by omega) e) hbi
theorem ok_Weighted_reduced {f : Addr} {fd : FuncData} (T : Tx K mg R W S) (ar : Ar P base) (hW : HasC P w K mg base 2 "Weighted" W ["self", "weights", "aside"] [] (spWInit W)) (F : Fun K "reduced" "Weighted.reduced" s_Weighted_reduced f fd) :
    FnOk P w K mg base CX0 33 f fd ["self"] (spReduced W) := by
  refine F.ok sc_Weighted_reduced (fun vs H Q E h => ?_) (fun cdv A outer s H vs Q E hr h => ?_)
  · obtain ⟨p, ws, a, rfl, _⟩ := h
    rfl
  · obtain ⟨p, ws, a, rfl, ⟨dx, lw, hp, hw⟩, pos, h24, k⟩ := h
    refine ⟨_, (pss_cons (ps_set (i := 1) sc_Weighted_reduced.nd rfl (Or.inr rfl) (pe_fld (pv 0) rfl))
    (pss_cons (ps_for PassesOwn.never rfl (pi_tup (pe_fld (pv 0) rfl)) (pg_name (i := 2) sc_Weighted_reduced.nd rfl (Or.inl rfl))
    (pss_one (ps_set (i := 1) sc_Weighted_reduced.nd rfl (Or.inr rfl) (pe_callBfun cr_gcd rfl T.gcd (pa_cons (pv 1) (pa_cons (pv 2) pa_nil))))))
    (pss_one (ps_ret (pe_makeH hW (hr.mono (by decide)) rfl (pa_cons (pe_lc (own := [("weight", 2)]) rfl sc_Weighted_reduced.nd (pi_tup (pe_fld (pv 0) rfl)) (blkOk_by (N := N_Weighted_reduced) (sc := defScope s_Weighted_reduced) (by decide +kernel)) (fun _ _ _ _ _ => (pg_name (i := 2) sc_Weighted_reduced.nd rfl (Or.inl rfl))) (fun _ _ _ _ _ => pts_nil) (fun _ _ _ _ _ => (pe_op (op_fdivA ar (hr.mono (by decide))) (pv 2) (pv 1)))) (pa_cons (pe_op (op_fdivA ar (hr.mono (by decide))) (pe_fld (pv 0) rfl) (pv 1)) pa_nil))))))), ?_⟩
    refine ⟨_, rfl, p, W, dx, _, _, rfl, hp, T.clW, T.wAs, wf_aside _ _ _, ?_⟩
    refine ⟨_, rfl, p, W, dx, _, _, rfl, hp, T.clW, T.wWei, wf_weights _ _ _, lw, rfl, ⟨_, SqT.of hw⟩, ?_⟩
    refine for_tup (K := K) (a := lw) (xs := vN ws) (fun i σ H' => ∃ v g, σ = [some (.ref p), some (.int (g : Nat)), v] ∧ H' = H ∧ 0 < g ∧ g ∣ a ∧ ∀ z ∈ ws.take i, g ∣ z)
      ⟨none, a, rfl, rfl, pos.1, Nat.dvd_refl _, fun z hz => by simp at hz⟩ (fun i σ H' _ ⟨_, _, _, q, _⟩ => by rw [q]; exact SqT.of hw) ?_ ?_
    · rintro i x σ H' hx ⟨v, g, rfl, rfl, hg, d1, d2⟩
      obtain ⟨z, hz, rfl⟩ := vN_get hx
      refine ⟨_, rfl, _, rfl, _, _, rfl, ?_⟩
      have e : ws.take (i + 1) = ws.take i ++ [z] := by
        obtain ⟨hi, e⟩ := List.getElem?_eq_some_iff.mp hz
        rw [List.take_succ_eq_append_getElem hi, e]
      refine ⟨_, Nat.gcd g z, rfl, rfl, Nat.gcd_pos_of_pos_left _ hg, Nat.dvd_trans (Nat.gcd_dvd_left _ _) d1, fun y hy => ?_⟩
      rw [e] at hy
      rcases List.mem_append.mp hy with h | h
      · exact Nat.dvd_trans (Nat.gcd_dvd_left _ _) (d2 y h)
      · rw [List.mem_singleton.mp h]
        exact Nat.gcd_dvd_right _ _
    · rintro σ H' ⟨v, g, rfl, rfl, hg, d1, d2⟩
      rw [vN_len, List.take_length] at d2
      have hdiv : ∀ z : Nat, (V.int ((z : Int) / ((g : Nat) : Int))) = V.int ((z / g : Nat) : Int) := fun z => by rw [← Int.natCast_ediv]
      refine ⟨_, rfl, p, W, dx, _, _, rfl, hp, T.clW, T.wWei, wf_weights _ _ _, lw, rfl, ⟨_, SqT.of hw⟩, fun D hD => ?_⟩
      refine lc_tup (K := K) (a := lw) (xs := vN ws) (fun i H1 => Same H' H1 ∧ H1 D = some (.lst (vN ((ws.take i).map fun z => z / g)))) ⟨Same.new hD, upd_same⟩ (fun i H1 _ q => SqT.of (q.1 _ _ hw)) ?_ ?_
      · rintro i x H1 hx ⟨s1, hD'⟩
        obtain ⟨z, hz, rfl⟩ := vN_get hx
        refine ⟨rfl, tyes_if ?_⟩
        refine ⟨_, rfl, _, rfl, _, _, rfl, rfl, by omega, _, hD', ?_, Same.then_set s1 hD, ?_⟩
        · rw [vN_len, List.length_map, List.length_take, sizeLine_eq]
          omega
        · have e : ws.take (i + 1) = ws.take i ++ [z] := by
            obtain ⟨hi, e⟩ := List.getElem?_eq_some_iff.mp hz
            rw [List.take_succ_eq_append_getElem hi, e]
          rw [upd_same, e, List.map_append]
          show some (HO.lst (_ ++ [V.int ((z : Int) / ((g : Nat) : Int))])) = some (HO.lst (vN (_ ++ [z / g])))
          rw [hdiv z]
          show _ = some (HO.lst (List.map _ (_ ++ [z / g])))
          rw [List.map_append]
          rfl
      · rintro H1 ⟨s1, hD'⟩
        rw [vN_len, List.take_length] at hD'
        refine ⟨_, rfl, p, W, dx, _, _, rfl, s1 _ _ hp, T.clW, T.wAs, wf_aside _ _ _, _, rfl, _, _, rfl, rfl, by omega, ?_⟩
        dsimp only
        rw [hdiv a]
        have dpos : ∀ z, g ∣ z → 1 ≤ z → 1 ≤ z / g := fun z hz h1 => Nat.div_pos (Nat.le_of_dvd h1 hz) hg
        have pos' : Pos1 (ws.map fun z => z / g) (a / g) := ⟨dpos a d1 pos.1, fun y hy => by
          obtain ⟨z, hz, rfl⟩ := List.mem_map.mp hy
          exact dpos z (d2 z hz) (pos.2 z hz)⟩
        refine wtd_made hD' pos' (by rw [List.length_map]; exact h24) fun x H2 s2 nx wx => ?_
        refine k x H2 _ _ (s1.trans s2) (Same.free s1 nx) wx ⟨⟨g, hg, (Nat.mul_div_cancel' d1).symm, ?_⟩, pos'⟩
        rw [List.map_map]
        conv => lhs; rw [← List.map_id ws]
        exact List.map_congr_left fun z hz => (Nat.mul_div_cancel' (d2 z hz)).symm
end
end Dl

namespace Dl
open PySem PySem.Spec PyProof.Rows L2
structure RcOk (n : Nat) (r : Rc) : Prop where
  asc : Asc n r.lot
  len : r.sold.length = r.lot.length
/-- how often thing i was sold, by one record, by all -/
def cnt (i : Nat) (r : Rc) : Nat := ((r.lot.zip r.sold).map fun p => if p.1 = i then p.2 else 0).sum
def soldOf (rs : List Rc) (i : Nat) : Nat := (rs.map (cnt i)).sum
theorem take_snoc {α : Type} {l : List α} {i : Nat} {a : α} (h : l[i]? = some a) : l.take (i + 1) = l.take i ++ [a] := by
  obtain ⟨hi, e⟩ := List.getElem?_eq_some_iff.mp h
  rw [List.take_succ_eq_append_getElem hi, e]
theorem zip_get {l : List Nat} {m : List Nat} {i x y : Nat} (h : l[i]? = some x) (h2 : m[i]? = some y) : (l.zip m)[i]? = some (x, y) := by
  rw [List.getElem?_zip_eq_some]
  exact ⟨h, h2⟩
def spRecord : Sp := fun vs H Q _ => ∃ (n : Nat) (q : Addr) (r : Rc), vs = [.int n, .ref q] ∧ RcL H q r ∧ RcOk n r ∧ n ≤ 24 ∧ ∀ (x : Addr) (H' : Hp), Same H H' → H x = none → RcT H' x r → Q (.ref x) H'
def spBook (S : Addr) : Sp := fun vs H Q _ => ∃ (p dx l : Addr) (n : Nat) (rs : List Rc), vs = [.ref p, .int n, .ref l] ∧ H p = some (.ins S dx []) ∧ n ≤ 24 ∧ LstOf RcL H l rs ∧ rs.length ≤ 1000 ∧ (∀ r ∈ rs, RcOk n r) ∧
  ∀ H' : Hp, BookAt S H' p n rs → (∀ c o, H c = some o → c ≠ p → H' c = some o) → Q .non H'
def spSold (S : Addr) : Sp := fun vs H Q _ => ∃ (p : Addr) (i n : Nat) (rs : List Rc), vs = [.ref p, .int i] ∧ BookAt S H p n rs ∧ (∀ r ∈ rs, RcOk n r) ∧ ∀ H', Same H H' → Q (.int (soldOf rs i : Nat)) H'
def spAlike (W S : Addr) : Sp := fun vs H Q _ => ∃ (p q : Addr) (ws : List Nat) (a : Nat) (rs : List Rc), vs = [.ref p, .ref q] ∧ WtdAt W H p ws a ∧ BookAt S H q ws.length rs ∧ Q .non H
section
variable {P : Program} {w : World} {K : PySem.W.Frag} {mg : Str → Option Value} {base : Heap} {R W S D : Addr}
abbrev s_checked_record : Stmt := tops 30
abbrev N_checked_record : List Str := ["many", "record", "lot", "sold", "gone", "at", "count"]
theorem sc_checked_record : FnScope N_checked_record ["many", "record"] (defScope s_checked_record) := ⟨rfl, rfl, rfl, by decide +kernel, rfl, by decide +kernel, by decide +kernel⟩
-- slots: 0 many, 1 record, 2 lot, 3 sold, 4 gone, 5 at, 6 count
abbrev s_SalesBook_init : Stmt := inClass (tops 31) 1
abbrev N_SalesBook_init : List Str := ["self", "many", "records", "record"]
theorem sc_SalesBook_init : FnScope N_SalesBook_init ["self", "many", "records"] (defScope s_SalesBook_init) := ⟨rfl, rfl, rfl, by decide +kernel, rfl, by decide +kernel, by decide +kernel⟩
-- slots: 0 self, 1 many (cell), 2 records, 3 record
abbrev s_SalesBook_sold_of : Stmt := inClass (tops 31) 3
abbrev N_SalesBook_sold_of : List Str := ["self", "thing", "total", "lot", "sold", "_", "other", "count"]
theorem sc_SalesBook_sold_of : FnScope N_SalesBook_sold_of ["self", "thing"] (defScope s_SalesBook_sold_of) := ⟨rfl, rfl, rfl, by decide +kernel, rfl, by decide +kernel, by decide +kernel⟩
-- slots: 0 self, 1 thing, 2 total, 3 lot, 4 sold, 5 _, 6 other, 7 count
abbrev s_SalesBook_len : Stmt := inClass (tops 31) 6
abbrev N_SalesBook_len : List Str := ["self"]
theorem sc_SalesBook_len : FnScope N_SalesBook_len ["self"] (defScope s_SalesBook_len) := ⟨rfl, rfl, rfl, by decide +kernel, rfl, by decide +kernel, by decide +kernel⟩
-- slots: 0 self
abbrev s_check_alike : Stmt := tops 23
abbrev N_check_alike : List Str := ["rule", "book"]
theorem sc_check_alike : FnScope N_check_alike ["rule", "book"] (defScope s_check_alike) := ⟨rfl, rfl, rfl, by decide +kernel, rfl, by decide +kernel, by decide +kernel⟩
-- slots: 0 rule, 1 book
theorem ok_check_alike {f : Addr} {fd : FuncData} (T : Tx K mg R W S) (F : Fun K "check_alike" "check_alike" s_check_alike f fd) : FnOk P w K mg base CX0 1 f fd ["rule", "book"] (spAlike W S) := by
  refine F.ok sc_check_alike (fun vs H Q E h => ?_) (fun cdv A outer s H vs Q E hr h => ?_)
  · obtain ⟨p, q, ws, a, rs, rfl, _⟩ := h
    rfl
  · obtain ⟨p, q, ws, a, rs, rfl, ⟨dx, lw, hp, hw⟩, ⟨dy, lb, hq, hb⟩, k⟩ := h
    refine ⟨_, (pss_one (ps_if (pt_cmpR op_ne (pe_fld (pv 0) rfl) (pe_fld (pv 1) rfl) (nomark _)) pss_never pss_nil)), ?_⟩
    refine ⟨_, rfl, p, W, dx, _, _, rfl, hp, T.clW, T.wMany, wf_many _ _ _, _, rfl, q, S, dy, _, _, rfl, hq, T.clS, T.sMany, sf_many _ _, rfl, _, rfl, ?_⟩
    exact ifNN rfl k
theorem ok_SalesBook_len {f : Addr} {fd : FuncData} (T : Tx K mg R W S) (F : Fun K "__len__" "SalesBook.__len__" s_SalesBook_len f fd) : FnOk P w K mg base CX0 1 f fd ["self"] (spLenB S) := by
  refine F.ok sc_SalesBook_len (fun vs H Q E h => ?_) (fun cdv A outer s H vs Q E hr h => ?_)
  · obtain ⟨p, dx, fs, l, xs, rfl, _⟩ := h
    rfl
  · obtain ⟨p, dx, fs, l, xs, rfl, hp, hf, hl, k⟩ := h
    refine ⟨_, (pss_one (ps_ret (pe_callB call_len (by rfl) T.len (by decide +kernel) (pa_cons (pe_fld (pv 0) rfl) pa_nil)))), ?_⟩
    exact ⟨_, rfl, p, S, dx, _, _, rfl, hp, T.clS, T.sRec, hf, _, xs.length, rfl, .inl ⟨_, SqL.of hl, rfl⟩, k⟩
theorem ok_checked_record {f : Addr} {fd : FuncData} (T : Tx K mg R W S) (h_check_lot : Has P w K mg base 1 "check_lot" ["lot", "many"] [] spCheck) (F : Fun K "checked_record" "checked_record" s_checked_record f fd) :
    FnOk P w K mg base CX0 2 f fd ["many", "record"] spRecord := by
  refine F.ok sc_checked_record (fun vs H Q E h => ?_) (fun cdv A outer s H vs Q E hr h => ?_)
  · obtain ⟨n, q, r, rfl, _⟩ := h
    rfl
  · obtain ⟨n, q, r, rfl, ⟨pl, ps, hq, hl, hs⟩, ok, hn, k⟩ := h
    refine ⟨_, (pss_cons (ps_asg (pv 1) (pg_tup rfl (pgs_cons (pg_name (i := 2) sc_checked_record.nd rfl (Or.inl rfl)) (pgs_cons (pg_name (i := 3) sc_checked_record.nd rfl (Or.inl rfl)) (pgs_cons (pg_name (i := 4) sc_checked_record.nd rfl (Or.inl rfl)) pgs_nil)))))
    (pss_cons (ps_expr (pe_callH h_check_lot (hr.mono (by decide)) rfl (pa_cons (pv 2) (pa_cons (pv 0) pa_nil))))
    (pss_cons (ps_if (pt_cmpR op_ne (pe_callB call_len (by rfl) T.len (by decide +kernel) (pa_cons (pv 3) pa_nil)) (pe_callB call_len (by rfl) T.len (by decide +kernel) (pa_cons (pv 2) pa_nil)) (nomark _)) pss_never pss_nil)
    (pss_cons (ps_for PassesOwn.never rfl (pi_enum (by rfl) T.enumerate (pa_cons (pv 3) pa_nil)) (pg_tup rfl (pgs_cons (pg_name (i := 5) sc_checked_record.nd rfl (Or.inl rfl)) (pgs_cons (pg_name (i := 6) sc_checked_record.nd rfl (Or.inl rfl)) pgs_nil)))
    (pss_one (ps_if (pt_cmpR op_lt (pv 6) pe_int (nomark _)) pss_never pss_nil)))
    (pss_cons (ps_if (pt_cmpR op_lt (pv 4) pe_int (nomark _)) pss_never pss_nil)
    (pss_one (ps_ret (pe_tup (pa_cons (pe_callTy call_tupleT (by rfl) T.tuple (by decide +kernel) (pa_cons (pv 2) pa_nil)) (pa_cons (pe_callTy call_tuple_of (by rfl) T.tuple (by decide +kernel) (pa_cons (pv 3) pa_nil)) (pa_cons (pv 4) pa_nil))))))))))), ?_⟩
    refine ⟨_, rfl, q, _, rfl, SqT.of hq, rfl, _, _, rfl, _, _, rfl, _, _, rfl, rfl, ?_⟩
    refine ⟨_, rfl, _, rfl, pl, n, r.lot, rfl, hl, ok.asc, ?_⟩
    refine ⟨_, rfl, _, r.sold.length, rfl, .inl ⟨_, SqL.of hs, (vN_len _).symm⟩, _, rfl, _, r.lot.length, rfl, .inr ⟨_, SqT.of hl, (vN_len _).symm⟩, rfl, _, rfl, ?_⟩
    refine ifNN (by rw [ok.len]) ?_
    refine ⟨_, rfl, ps, vN r.sold, rfl, SqL.of hs, ?_⟩
    refine for_enum (xs := vN r.sold) (fun i σ H' => ∃ v4 v5, σ = [some (.int n), some (.ref q), some (.ref pl), some (.ref ps), some (.int r.gone), v4, v5] ∧ Same H H') ⟨none, none, rfl, Same.refl _⟩ ?_ ?_ ?_
    · rintro i σ H' ⟨v4, v5, rfl, s1⟩
      exact SqL.of (s1 _ _ hs)
    · rintro i x T' σ H' hx ⟨v4, v5, rfl, s1⟩ hT
      obtain ⟨z, hz, rfl⟩ := vN_get hx
      refine ⟨T', _, rfl, SqT.of upd_same, rfl, _, _, rfl, _, _, rfl, rfl, ?_⟩
      exact ⟨_, rfl, _, _, rfl, rfl, _, rfl, ifN (by omega) ⟨_, _, rfl, Same.then_new s1 hT⟩⟩
    · rintro σ H' ⟨v4, v5, rfl, s1⟩
      refine ⟨_, rfl, _, _, rfl, rfl, _, rfl, ifN (by omega) ?_⟩
      refine ⟨_, rfl, pl, _, rfl, SqT.of (s1 _ _ hl), _, rfl, ps, _, rfl, .inl ⟨SqL.of (s1 _ _ hs), fun t ht => ?_⟩⟩
      refine ⟨_, rfl, (by show 3 ≤ sizeLine; rw [sizeLine_eq]; decide), fun x hx => ?_⟩
      have s2 : Same H (upd H' t (.tup (vN r.sold))) := Same.then_new s1 ht
      have s3 := Same.then_new (o := .tup [.ref pl, .ref t, .int r.gone]) s2 hx
      refine k x _ s3 (Same.free s2 hx) ⟨pl, t, upd_same, s3 _ _ hl, ?_⟩
      rw [upd_ne (fun z => by subst z; rw [upd_same] at hx; cases hx), upd_same]
theorem ok_SalesBook_init {f : Addr} {fd : FuncData} {dv : V} (T : Tx K mg R W S) (h_checked_record : Has P w K mg base 2 "checked_record" ["many", "record"] [] spRecord) (F : FunD K "__init__" "SalesBook.__init__" (defArgs s_SalesBook_init) (defBody s_SalesBook_init) (defScope s_SalesBook_init) [dv] [] f fd) :
    FnOk P w K mg base CX0 3 f fd ["self", "many", "records"] (spBook S) := by
  refine F.ok sc_SalesBook_init (fun vs H Q E h => ?_) (fun cdv A outer s H vs Q E hr h => ?_)
  · obtain ⟨p, dx, l, n, rs, rfl, _⟩ := h
    rfl
  · obtain ⟨p, dx, l, n, rs, rfl, hp, hn, ⟨as, hl, ea⟩, hlen, ok, k⟩ := h
    obtain ⟨u, con⟩ := T.sMost
    refine ⟨_, PSs.nox (pss_cons (ps_if (pt_cmpR op_gt (pv 1) (pe_con (pv 0) rfl) (nomark _)) pss_never pss_nil)
    (pss_cons (ps_fld (pv 0) (pv 1) rfl)
    (pss_one (ps_fld (pv 0) (pe_lc (own := [("record", 3)]) rfl sc_SalesBook_init.nd (pi_list (pv 2)) (blkOk_by (N := N_SalesBook_init) (sc := defScope s_SalesBook_init) (by decide +kernel)) (fun _ _ _ _ _ => (pg_name (i := 3) sc_SalesBook_init.nd rfl (Or.inl rfl))) (fun _ _ _ _ _ => pts_nil) (fun _ _ _ _ _ => (pe_callH h_checked_record (hr.mono (by decide)) rfl (pa_cons (pv 1) (pa_cons (pv 3) pa_nil))))) rfl)))), ?_⟩
    refine ⟨_, rfl, _, rfl, p, S, dx, [], _, u, rfl, hp, T.clS, con, rfl, _, _, rfl, rfl, _, rfl, ifN (by omega) ?_⟩
    refine ⟨_, rfl, _, rfl, p, S, dx, [], rfl, hp, T.clS, T.sMany, (by show 0 < 1000; decide), ?_⟩
    have nlp : l ≠ p := fun z => by rw [z, hp] at hl; cases hl
    refine ⟨_, rfl, l, rfl, ⟨_, SqL.of (by rw [upd_ne nlp]; exact hl)⟩, fun D hD => ?_⟩
    have hA : ∀ c o, H c = some o → c ≠ p → (upd H p (.ins S dx (putF "many" (.int n) []))) c = some o := fun c o e hc => by rw [upd_ne hc]; exact e
    have nDp : D ≠ p := fun z => by subst z; rw [upd_same] at hD; cases hD
    have eas : ∀ H', Same (upd H p (.ins S dx (putF "many" (.int n) []))) H' → Each RcL H' as rs := fun H' s1 => ⟨ea.1, fun i a r e1 e2 => by
      obtain ⟨pl, ps, h1, h2, h3⟩ := ea.2 i a r e1 e2
      exact ⟨pl, ps, s1 _ _ (hA _ _ h1 (fun z => by rw [z, hp] at h1; cases h1)), s1 _ _ (hA _ _ h2 (fun z => by rw [z, hp] at h2; cases h2)), s1 _ _ (hA _ _ h3 (fun z => by rw [z, hp] at h3; cases h3))⟩⟩
    refine lc_list (K := K) (a := l) (xs := as.map V.ref) (fun i H' => Same (upd H p (.ins S dx (putF "many" (.int n) []))) H' ∧ LstOf RcT H' D (rs.take i)) ⟨Same.new hD, [], upd_same, Each.nil⟩ (fun i H' _ q => SqL.of (q.1 _ _ (hA _ _ hl nlp))) ?_ ?_
    · rintro i x H' hx ⟨s1, bs, hD', eb⟩
      obtain ⟨q, r, rfl, hq, hr', _⟩ := ea.get hx
      have ra := (eas H' s1).2 i q r hq hr'
      refine ⟨rfl, tyes_if ?_⟩
      refine ⟨_, rfl, _, rfl, n, q, r, rfl, ra, ok r (List.mem_of_getElem? hr'), hn, fun y H2 s2 ny ry => ?_⟩
      refine ⟨_, s2 _ _ hD', ?_, Same.then_set (Same.trans s1 s2) hD, bs ++ [y], ?_, ?_⟩
      · rw [List.length_map, eb.1, List.length_take, sizeLine_eq]
        omega
      · rw [upd_same, List.map_append]
        rfl
      · have keep : ∀ H3 a r, Same H' H3 → RcT H3 a r → H3 D = some (.lst (bs.map V.ref)) → RcT (upd H3 D (.lst (bs.map V.ref ++ [.ref y]))) a r := fun H3 a r _ ⟨pl, ps, e1, e2, e3⟩ hd =>
          ⟨pl, ps, by rw [upd_ne (fun z => by subst z; rw [hd] at e1; cases e1)]; exact e1, by rw [upd_ne (fun z => by subst z; rw [hd] at e2; cases e2)]; exact e2, by rw [upd_ne (fun z => by subst z; rw [hd] at e3; cases e3)]; exact e3⟩
        rw [take_snoc hr']
        exact (eb.imp fun a r z => keep H2 a r s2 (RcT.same s2 z) (s2 _ _ hD')).snoc (keep H2 y r s2 ry (s2 _ _ hD'))
    · rintro H' ⟨s1, q⟩
      rw [List.length_map, ea.1, List.take_length] at q
      have hp' : H' p = some (.ins S dx (putF "many" (.int n) [])) := s1 _ _ upd_same
      refine ⟨_, rfl, p, S, dx, _, rfl, hp', T.clS, T.sRec, (by show 1 < 1000; decide), ?_⟩
      obtain ⟨bs, hD', eb⟩ := q
      have ne : ∀ {b o}, H' b = some o → (∀ C d fs, o ≠ .ins C d fs) → b ≠ p := fun e h z => by subst z; rw [hp'] at e; exact h _ _ _ (Option.some.inj e).symm
      refine k _ ⟨dx, D, upd_same, bs, by rw [upd_ne nDp]; exact hD', eb.imp fun a r ⟨pl, ps, e1, e2, e3⟩ => ⟨pl, ps, ?_, ?_, ?_⟩⟩ fun c o e hc => by rw [upd_ne hc]; exact s1 _ _ (hA _ _ e hc)
      · rw [upd_ne (ne e1 (fun _ _ _ => by intro z; cases z))]; exact e1
      · rw [upd_ne (ne e2 (fun _ _ _ => by intro z; cases z))]; exact e2
      · rw [upd_ne (ne e3 (fun _ _ _ => by intro z; cases z))]; exact e3
theorem ok_SalesBook_sold_of {f : Addr} {fd : FuncData} (T : Tx K mg R W S) (F : Fun K "sold_of" "SalesBook.sold_of" s_SalesBook_sold_of f fd) : FnOk P w K mg base CX0 1 f fd ["self", "thing"] (spSold S) := by
  refine F.ok sc_SalesBook_sold_of (fun vs H Q E h => ?_) (fun cdv A outer s H vs Q E hr h => ?_)
  · obtain ⟨p, i, n, rs, rfl, _⟩ := h
    rfl
  · obtain ⟨p, th, n, rs, rfl, ⟨dx, l, hp, as, hl, ea⟩, ok, k⟩ := h
    refine ⟨_, (pss_cons (ps_set (i := 2) sc_SalesBook_sold_of.nd rfl (Or.inl rfl) pe_int)
    (pss_cons (ps_for PassesOwn.never rfl (pi_list (pe_fld (pv 0) rfl)) (pg_tup rfl (pgs_cons (pg_name (i := 3) sc_SalesBook_sold_of.nd rfl (Or.inl rfl)) (pgs_cons (pg_name (i := 4) sc_SalesBook_sold_of.nd rfl (Or.inl rfl)) (pgs_cons (pg_name (i := 5) sc_SalesBook_sold_of.nd rfl (Or.inl rfl)) pgs_nil))))
    (pss_one (ps_for PassesOwn.never rfl (RZ.pi_zipA (by rfl) T.zip (pa_cons (pv 3) (pa_cons (pv 4) pa_nil))) (pg_tup rfl (pgs_cons (pg_name (i := 6) sc_SalesBook_sold_of.nd rfl (Or.inl rfl)) (pgs_cons (pg_name (i := 7) sc_SalesBook_sold_of.nd rfl (Or.inl rfl)) pgs_nil)))
    (pss_one (ps_if (pt_cmpR op_eq (pv 6) (pv 1) (nomark _)) (pss_one (ps_aug (i := 2) sc_SalesBook_sold_of.nd rfl (Or.inl rfl) (pv 7) ip_add)) pss_nil)))))
    (pss_one (ps_ret (pv 2))))), ?_⟩
    refine ⟨_, rfl, p, S, dx, _, _, rfl, hp, T.clS, T.sRec, sf_records _ _, l, rfl, ⟨_, SqL.of hl⟩, ?_⟩
    refine for_list (K := K) (a := l) (xs := as.map V.ref) (fun i σ H' => ∃ v3 v4 v5 v6 v7, σ = [some (.ref p), some (.int th), some (.int (soldOf (rs.take i) th : Nat)), v3, v4, v5, v6, v7] ∧ Same H H') ⟨_, _, _, _, _, rfl, Same.refl _⟩ (fun i σ H' _ ⟨_, _, _, _, _, _, s1⟩ => SqL.of (s1 _ _ hl)) ?_ ?_
    · rintro i x σ H' hx ⟨v3, v4, v5, v6, v7, rfl, s1⟩
      obtain ⟨q, r, rfl, hq, hr', pl, ps, e1, e2, e3⟩ := ea.get hx
      have okr := ok r (List.mem_of_getElem? hr')
      refine ⟨q, _, rfl, SqT.of (s1 _ _ e1), rfl, _, _, rfl, _, _, rfl, _, _, rfl, rfl, ?_⟩
      refine ⟨_, rfl, _, rfl, pl, ps, vN r.lot, vN r.sold, rfl, .inr ⟨SqT.of (s1 _ _ e2), SqT.of (s1 _ _ e3), ?_⟩⟩
      refine RZ.for_zipT (by rw [vN_len, vN_len, okr.len]) (fun j σ H2 => ∃ v6 v7, σ = [some (.ref p), some (.int th), some (.int ((soldOf (rs.take i) th + (((r.lot.zip r.sold).take j).map fun p => if p.1 = th then p.2 else 0).sum : Nat) : Int)), some (.ref pl), some (.ref ps), some (.int r.gone), v6, v7] ∧ Same H H2)
        ⟨_, _, rfl, s1⟩ (fun j σ H2 ⟨_, _, _, s2⟩ => ⟨SqT.of (s2 _ _ e2), SqT.of (s2 _ _ e3)⟩) ?_ ?_
      · rintro j x y T' σ H2 hx hy ⟨v6, v7, rfl, s2⟩ hT
        obtain ⟨a, ha, rfl⟩ := vN_get hx
        obtain ⟨b, hb, rfl⟩ := vN_get hy
        refine ⟨T', _, rfl, SqT.of upd_same, rfl, _, _, rfl, _, _, rfl, rfl, ?_⟩
        refine ⟨_, rfl, _, rfl, rfl, _, rfl, ?_⟩
        rw [take_snoc (zip_get ha hb), List.map_append, List.sum_append]
        by_cases h : a = th
        · refine ifY (by rw [h]) ?_
          refine ⟨_, rfl, _, rfl, _, _, rfl, rfl, some (.int a), some (.int b), ?_, Same.then_new s2 hT⟩
          refine congrArg (fun z => [some (V.ref p), some (.int th), some (.int z), some (.ref pl), some (.ref ps), some (.int r.gone), some (.int a), some (.int b)]) ?_
          simp [h]
          omega
        · refine ifN (int_ne (by omega)) ⟨some (.int a), some (.int b), ?_, Same.then_new s2 hT⟩
          simp [h]
      · rintro σ H2 ⟨v6, v7, rfl, s2⟩
        refine ⟨some (.ref pl), some (.ref ps), some (.int r.gone), v6, v7, ?_, s2⟩
        have e : soldOf (rs.take (i + 1)) th = soldOf (rs.take i) th + cnt th r := by
          unfold soldOf
          rw [take_snoc hr', List.map_append, List.sum_append]
          simp
        rw [e]
        unfold cnt
        have e2 : (r.lot.zip r.sold).take (vN r.lot).length = r.lot.zip r.sold := List.take_of_length_le (by rw [List.length_zip, vN_len]; exact Nat.min_le_left _ _)
        rw [e2]
    · rintro σ H' ⟨v3, v4, v5, v6, v7, rfl, s1⟩
      rw [List.length_map, ea.1, List.take_length]
      exact ⟨_, rfl, k H' s1⟩
end
end Dl

namespace Dl
open PySem PySem.Spec PyProof.Rows L2
theorem inV_nat (i : Nat) (l : List Nat) : inV (.int (i : Nat)) (vN l) = decide (i ∈ l) := by
  unfold inV
  rw [List.any_map]
  induction l with
  | nil => rfl
  | cons a r ih =>
    rw [List.any_cons, ih]
    by_cases h : a = i
    · subst h
      simp [eqV]
    · have : ¬ (a : Int) = i := by omega
      have h2 : ¬ i = a := fun z => h z.symm
      simp [eqV, this, h2]
theorem flat_vN (l : List Nat) : (vN l).all flatV = true := by
  rw [List.all_map]
  exact List.all_eq_true.mpr fun _ _ => rfl
theorem filter_succ (p : Nat → Bool) (i : Nat) : (List.range (i + 1)).filter p = (List.range i).filter p ++ (if p i then [i] else []) := by
  rw [List.range_succ, List.filter_append]
  congr 1
  cases h : p i <;> simp [h]
def shown (n : Nat) (rs : List Rc) : List Nat := (List.range n).filter fun i => rs.any fun r => decide (i ∈ r.lot)
def spShown (S : Addr) : Sp := fun vs H Q _ => ∃ (q : Addr) (n : Nat) (rs : List Rc), vs = [.ref q] ∧ BookAt S H q n rs ∧ n ≤ 24 ∧ rs.length ≤ 1000 ∧ ∀ (x : Addr) (H' : Hp), Same H H' → H x = none → H' x = some (.lst (vN (shown n rs))) → Q (.ref x) H'
section
variable {P : Program} {w : World} {K : PySem.W.Frag} {mg : Str → Option Value} {base : Heap} {R W S D : Addr}
abbrev s_shown_things : Stmt := tops 25
abbrev N_shown_things : List Str := ["book", "shown", "thing", "record"]
theorem sc_shown_things : FnScope N_shown_things ["book"] (defScope s_shown_things) := ⟨rfl, rfl, rfl, by decide +kernel, rfl, by decide +kernel, by decide +kernel⟩
-- slots: 0 book, 1 shown, 2 thing (cell), 3 record
theorem ok_shown_things {f fi : Addr} {fd fdi : FuncData} {st : Stmt} (T : Tx K mg R W S) (IB : ItB K mg S fi fdi st) (IT : ItT st) (F : Fun K "shown_things" "shown_things" s_shown_things f fd) : FnOk P w K mg base CX0 2 f fd ["book"] (spShown S) := by
  refine F.ok sc_shown_things (fun vs H Q E h => ?_) (fun cdv A outer s H vs Q E hr h => ?_)
  · obtain ⟨q, n, rs, rfl, _⟩ := h
    rfl
  · obtain ⟨q, n, rs, rfl, ⟨dx, l, hq, as, hl, ea⟩, hn, h1000, k⟩ := h
    refine ⟨_, (pss_cons (ps_set (i := 1) sc_shown_things.nd rfl (Or.inl rfl) (pe_lst pa_nil))
    (pss_cons (ps_for PassesOwn.never rfl (pi_range1 rfl T.range (pa_cons (pe_fld (pv 0) rfl) pa_nil)) (pg_name (i := 2) sc_shown_things.nd rfl (Or.inr rfl))
    (pss_one (ps_if (pt_val (pe_callB (cr_any rfl) (by rfl) T.any (by decide +kernel) (pa_cons (pe_lc (own := [("record", 3)]) rfl sc_shown_things.nd (pi_own IB IT (hr.mono (by decide)) (pv 0)) (blkOk_by (N := N_shown_things) (sc := defScope s_shown_things) (by decide +kernel)) (fun _ _ _ _ _ => (pg_name (i := 3) sc_shown_things.nd rfl (Or.inl rfl))) (fun _ _ _ _ _ => pts_nil) (fun _ _ _ _ _ => (pe_cmpR (op_in_seqK (K := K) rfl) (pv 2) (pe_ix (ix_tupK (K := K) rfl) (pv 3) pe_int (fun _ _ => rfl)) (by rfl)))) pa_nil))) (pss_one (ps_expr (pe_bm PySem.F.plainAttrs_list PySem.F.slot_list_append PySem.F.type_list_append mt_append (pv 1) (pa_cons (pv 2) pa_nil)))) pss_nil)))
    (pss_one (ps_ret (pv 1))))), ?_⟩
    refine ⟨by rw [sizeLine_eq]; decide, fun D hD => ?_⟩
    refine ⟨_, rfl, q, S, dx, _, _, rfl, Same.new hD _ _ hq, T.clS, T.sMany, sf_many _ _, n, rfl, by omega, by omega, ?_⟩
    rw [Int.toNat_natCast]
    refine for_range (lo := 0) (n := n) (fun i σ H' => ∃ v2 v3, σ = [some (.ref q), some (.ref D), v2, v3] ∧ Same H H' ∧ H' D = some (.lst (vN ((List.range i).filter fun i => rs.any fun r => decide (i ∈ r.lot))))) ⟨_, _, rfl, Same.new hD, upd_same⟩ ?_ ?_
    · rintro i σ H' hi ⟨v2, v3, rfl, s1, hD'⟩
      rw [Int.zero_add]
      refine ⟨_, rfl, q, dx, _, l, _, rfl, s1 _ _ hq, sf_records _ _, s1 _ _ hl, fun E hE => ?_⟩
      refine lc_list (K := K) (a := l) (xs := as.map V.ref) (fun j H2 => Same H' H2 ∧ H2 E = some (.lst (((rs.take j).map fun r => decide (i ∈ r.lot)).map V.bl))) ⟨Same.new hE, upd_same⟩ (fun j H2 _ q => SqL.of (q.1 _ _ (s1 _ _ hl))) ?_ ?_
      · rintro j x H2 hx ⟨s2, hE'⟩
        obtain ⟨c, r, rfl, hc, hr', pl, ps, e1, e2, e3⟩ := ea.get hx
        refine ⟨rfl, tyes_if ?_⟩
        have s3 := s1.trans s2
        refine ⟨_, rfl, _, rfl, c, _, _, _, rfl, rfl, SqT.of (s3 _ _ e1), rfl, pl, vN r.lot, rfl, .inr (SqT.of (s3 _ _ e2)), rfl, flat_vN _, ?_⟩
        refine ⟨_, hE', ?_, Same.then_set s2 hE, ?_⟩
        · rw [List.length_map, List.length_map, List.length_take, sizeLine_eq]
          omega
        · rw [upd_same, take_snoc hr', List.map_append, List.map_append]
          show some (HO.lst (_ ++ [V.bl (inV _ _)])) = _
          rw [inV_nat]
          rfl
      · rintro H2 ⟨s2, hE'⟩
        rw [List.length_map, ea.1, List.take_length] at hE'
        refine ⟨E, _, rfl, SqL.of hE', ?_⟩
        have eb : (rs.map fun r => decide (i ∈ r.lot)).any id = rs.any fun r => decide (i ∈ r.lot) := by rw [List.any_map]; rfl
        dsimp only
        rw [eb]
        have hD2 : H2 D = some (.lst (vN ((List.range i).filter fun i => rs.any fun r => decide (i ∈ r.lot)))) := s2 _ _ hD'
        have ef : (List.range (i + 1)).filter (fun i => rs.any fun r => decide (i ∈ r.lot)) = (List.range i).filter (fun i => rs.any fun r => decide (i ∈ r.lot)) ++ (if rs.any fun r => decide (i ∈ r.lot) then [i] else []) := filter_succ _ _
        rw [ef]
        cases hc : rs.any fun r => decide (i ∈ r.lot) with
        | true =>
          refine ⟨true, rfl, iteT ?_⟩
          refine ⟨_, rfl, .inl ⟨rfl, _, SqL.of hD2⟩, _, rfl, D, _, _, rfl, rfl, hD2, ?_, _, v3, rfl, Same.then_set (s1.trans s2) hD, ?_⟩
          · rw [vN_len, sizeLine_eq]
            have := List.length_filter_le (fun i => rs.any fun r => decide (i ∈ r.lot)) (List.range i)
            rw [List.length_range] at this
            omega
          · rw [upd_same]
            simp
        | false =>
          refine ⟨false, rfl, iteF ⟨_, v3, rfl, s1.trans s2, ?_⟩⟩
          simpa using hD2
    · rintro σ H' ⟨v2, v3, rfl, s1, hD'⟩
      exact ⟨_, rfl, k D H' s1 hD hD'⟩
end
end Dl

namespace Dl
open PySem PySem.Spec PyProof.Rows L2
theorem list_choice {α : Type} {Pr : Nat → α → Prop} : ∀ n : Nat, (∀ i, i < n → ∃ y, Pr i y) → ∃ ys : List α, ys.length = n ∧ ∀ i y, ys[i]? = some y → Pr i y := by
  intro n
  induction n with
  | zero => intro _; exact ⟨[], rfl, fun i y h => by simp at h⟩
  | succ n ih =>
    intro h
    obtain ⟨ys, hl, hp⟩ := ih fun i hi => h i (by omega)
    obtain ⟨y, hy⟩ := h n (by omega)
    refine ⟨ys ++ [y], by rw [List.length_append, hl]; rfl, fun i z e => ?_⟩
    by_cases hi : i < ys.length
    · rw [List.getElem?_append_left hi] at e
      exact hp i z e
    · rw [List.getElem?_append_right (by omega)] at e
      cases hj : i - ys.length with
      | zero =>
        rw [hj] at e
        cases Option.some.inj e
        have : i = n := by omega
        rw [this]
        exact hy
      | succ j => rw [hj] at e; simp at e
/-- a fraction of natural numbers above 0, of at most m bits, that is x over y -/
def RatB (R : Addr) (m : Nat) (H : Hp) (p : Addr) (xy : Nat × Nat) : Prop := ∃ t b : Nat, RatAt R H p t b ∧ 0 < t ∧ 0 < b ∧ t * xy.2 = xy.1 * b ∧ t < 2 ^ m ∧ b < 2 ^ m
theorem RatB.same {R : Addr} {m : Nat} {H H' : Hp} {p : Addr} {xy : Nat × Nat} (s : Same H H') (h : RatB R m H p xy) : RatB R m H' p xy := let ⟨t, b, e, q⟩ := h; ⟨t, b, e.same s, q⟩
def RatTB (R : Addr) (H : Hp) (p : Addr) (tb : Nat × Nat) : Prop := RatAt R H p (tb.1 : Nat) (tb.2 : Nat)
/-- the weights and the aside weight stand to each other as the fractions to a -/
def Alike (xs : List (Nat × Nat)) (a : Nat) (ws' : List Nat) (a' : Nat) : Prop := ws'.length = xs.length ∧ ∀ i x y, xs[i]? = some (x, y) → ws'.getD i 0 * y * a = x * a'
def Bits (k : Nat) (ws : List Nat) (a : Nat) : Prop := a < 2 ^ k ∧ ∀ w ∈ ws, w < 2 ^ k
def spWhole (R W : Addr) : Sp := fun vs H Q _ => ∃ (l : Addr) (xs : List (Nat × Nat)) (a m : Nat), vs = [.ref l, .int a] ∧ LstOf (RatB R m) H l xs ∧ xs.length ≤ 4 ∧ 1 ≤ a ∧ a < 2 ^ m ∧ m ≤ 3000 ∧ NewW W H Q (fun ws' a' => Alike xs a ws' a' ∧ Pos1 ws' a' ∧ Bits (5 * m) ws' a')
theorem lcm_step {m i g b : Nat} (hg : 0 < g) (h : g ≤ 2 ^ (m * i)) (hb0 : 0 < b) (hb : b < 2 ^ m) : 0 < Nat.lcm g b ∧ Nat.lcm g b ≤ 2 ^ (m * (i + 1)) := by
  refine ⟨Nat.lcm_pos hg hb0, ?_⟩
  have h1 : Nat.lcm g b ≤ g * b := Nat.le_of_dvd (Nat.mul_pos hg hb0) (Nat.lcm_dvd_mul g b)
  have h2 : g * b ≤ 2 ^ (m * i) * 2 ^ m := Nat.mul_le_mul h (Nat.le_of_lt hb)
  rw [← Nat.pow_add] at h2
  have : m * i + m = m * (i + 1) := by rw [Nat.mul_succ]
  rw [this] at h2
  omega
theorem pow_lt {g e k : Nat} (h : g ≤ 2 ^ e) (he : e < k) : g < 2 ^ k := Nat.lt_of_le_of_lt h (Nat.pow_lt_pow_right (by decide) he)
theorem nat_cap {n k : Nat} (h : n < 2 ^ k) (hk : k ≤ 40000000) : (((n : Nat) : Int)).natAbs < 2 ^ cap := bd_le (k := k) (by rw [Int.natAbs_natCast]; exact h) hk
theorem whole_eq {t b g d x y a w a' : Nat} (hb : 0 < b) (hd : 0 < d) (hbg : b ∣ g) (e : t * y = x * b) (e1 : t * (g / b) = d * w) (e2 : a * g = d * a') : w * y * a = x * a' := by
  obtain ⟨q, rfl⟩ := hbg
  rw [Nat.mul_div_cancel_left _ hb] at e1
  have hp : 0 < d * b := Nat.mul_pos hd hb
  apply Nat.eq_of_mul_eq_mul_left hp
  calc d * b * (w * y * a) = (d * w) * b * y * a := by grind
    _ = t * q * b * y * a := by rw [e1]
    _ = (t * y) * (a * (b * q)) := by grind
    _ = x * b * (d * a') := by rw [e, e2]
    _ = d * b * (x * a') := by grind
section
variable {P : Program} {w : World} {K : PySem.W.Frag} {mg : Str → Option Value} {base : Heap} {R W S D : Addr}
abbrev s_whole_rule : Stmt := tops 26
abbrev N_whole_rule : List Str := ["weights", "aside", "shared", "weight", "whole"]
theorem sc_whole_rule : FnScope N_whole_rule ["weights", "aside"] (defScope s_whole_rule) := ⟨rfl, rfl, rfl, by decide +kernel, rfl, by decide +kernel, by decide +kernel⟩
-- slots: 0 weights, 1 aside, 2 shared (cell), 3 weight, 4 whole
theorem ok_whole_rule {f : Addr} {fd : FuncData} (T : Tx K mg R W S) (ar : Ar P base) (hW : HasC P w K mg base 2 "Weighted" W ["self", "weights", "aside"] [] (spWInit W)) (hW_reduced : HasM P w K mg base 33 W "reduced" ["self"] (spReduced W)) (F : Fun K "whole_rule" "whole_rule" s_whole_rule f fd) :
    FnOk P w K mg base CX0 34 f fd ["weights", "aside"] (spWhole R W) := by
  refine F.ok sc_whole_rule (fun vs H Q E h => ?_) (fun cdv A outer s H vs Q E hr h => ?_)
  · obtain ⟨l, xs, a, m, rfl, _⟩ := h
    rfl
  · obtain ⟨l, xs, a, m, rfl, ⟨as, hl, ea⟩, h4, ha, ham, hm, k⟩ := h
    obtain ⟨tbs, hlen, htb⟩ := list_choice (Pr := fun i (tb : Nat × Nat) => ∃ p xy, as[i]? = some p ∧ xs[i]? = some xy ∧ RatTB R H p tb ∧ 0 < tb.1 ∧ 0 < tb.2 ∧ tb.1 * xy.2 = xy.1 * tb.2 ∧ tb.1 < 2 ^ m ∧ tb.2 < 2 ^ m) xs.length (fun i hi => by
      have hi2 : i < as.length := by rw [ea.1]; exact hi
      obtain ⟨t, b, h1, h2⟩ := ea.2 i as[i] xs[i] (List.getElem?_eq_getElem hi2) (List.getElem?_eq_getElem hi)
      exact ⟨(t, b), as[i], xs[i], List.getElem?_eq_getElem hi2, List.getElem?_eq_getElem hi, h1, h2⟩)
    have et : Each (RatTB R) H as tbs := ⟨by rw [hlen, ea.1], fun i p tb e1 e2 => by
      obtain ⟨p', xy, h1, h2, h3, _⟩ := htb i tb e2
      rw [e1] at h1
      cases Option.some.inj h1
      exact h3⟩
    have hall : ∀ tb ∈ tbs, 0 < tb.1 ∧ 0 < tb.2 ∧ tb.1 < 2 ^ m ∧ tb.2 < 2 ^ m := fun tb ht => by
      obtain ⟨i, hi⟩ := List.mem_iff_getElem?.mp ht
      obtain ⟨_, _, _, _, _, h1, h2, _, h3, h4⟩ := htb i tb hi
      exact ⟨h1, h2, h3, h4⟩
    refine ⟨_, (pss_cons (ps_set (i := 2) sc_whole_rule.nd rfl (Or.inr rfl) pe_int)
    (pss_cons (ps_for PassesOwn.never rfl (pi_list (pv 0)) (pg_name (i := 3) sc_whole_rule.nd rfl (Or.inl rfl))
    (pss_one (ps_set (i := 2) sc_whole_rule.nd rfl (Or.inr rfl) (pe_callBfun cr_lcm rfl T.lcm (pa_cons (pv 2) (pa_cons (pe_fld (pv 3) rfl) pa_nil))))))
    (pss_cons (ps_setLc (i := 4) (own := [("weight", 3)]) rfl sc_whole_rule.nd rfl rfl (sw_true rfl rfl rfl (by decide +kernel)) (pi_list (pv 0)) (blkOk_by (N := N_whole_rule) (sc := defScope s_whole_rule) (by decide +kernel)) (fun _ _ _ _ _ => (pg_name (i := 3) sc_whole_rule.nd rfl (Or.inl rfl))) (fun _ _ _ _ _ => pts_nil) (fun _ _ _ _ _ => (pe_op op_mulX (pe_fldK (K := K) rfl (pv 3) rfl) (pe_op (op_fdivA ar (hr.mono (by decide))) (pv 2) (pe_fldK (K := K) rfl (pv 3) rfl)))))
    (pss_one (ps_ret (pe_methH0 (pe_makeH hW (hr.mono (by decide)) rfl (pa_cons (pv 4) (pa_cons (pe_op op_mulX (pv 1) (pv 2)) pa_nil))) T.clW hW_reduced (hr.mono (by decide)))))))), ?_⟩
    refine ⟨_, rfl, l, rfl, ⟨_, SqL.of hl⟩, ?_⟩
    refine for_list (K := K) (a := l) (xs := as.map V.ref) (fun i σ H' => ∃ g v3 v4, σ = [some (.ref l), some (.int a), some (.int (g : Nat)), v3, v4] ∧ H' = H ∧ 0 < g ∧ g ≤ 2 ^ (m * i) ∧ ∀ tb ∈ tbs.take i, tb.2 ∣ g)
      ⟨1, _, _, rfl, rfl, by decide, by rw [Nat.mul_zero]; exact Nat.le_refl _, fun tb h => by simp at h⟩ (fun i σ H' _ ⟨_, _, _, _, q, _⟩ => by rw [q]; exact SqL.of hl) ?_ ?_
    · rintro i x σ H' hx ⟨g, v3, v4, rfl, rfl, hg, hb, hdv⟩
      obtain ⟨p, tb, rfl, hp, htb', dx, hat⟩ := et.get hx
      obtain ⟨p1, p2, p3, p4⟩ := hall tb (List.mem_of_getElem? htb')
      obtain ⟨l1, l2⟩ := lcm_step hg hb p2 p4
      have hi : i < xs.length := by rw [← hlen]; exact (List.getElem?_eq_some_iff.mp htb').1
      have hmi : m * i ≤ m * 4 := Nat.mul_le_mul_left _ (by omega)
      refine ⟨_, rfl, _, rfl, p, R, dx, _, _, rfl, hat, T.clR, T.rBot, rf_bottom _ _, g, tb.2, rfl, pow_lt hb (by omega), pow_lt (Nat.le_of_lt p4) (by omega), ?_⟩
      refine ⟨_, _, _, rfl, rfl, l1, l2, fun z hz => ?_⟩
      rw [take_snoc htb'] at hz
      rcases List.mem_append.mp hz with h | h
      · exact Nat.dvd_trans (hdv z h) (Nat.dvd_lcm_left _ _)
      · rw [List.mem_singleton.mp h]
        exact Nat.dvd_lcm_right _ _
    · rintro σ H' ⟨g, v3, v4, rfl, rfl, hg, hb, hdv⟩
      rw [List.length_map, et.1, List.take_length] at hdv
      rw [List.length_map, ea.1] at hb
      have hb4 : g ≤ 2 ^ (4 * m) := Nat.le_trans hb (Nat.pow_le_pow_right (by decide) (by rw [Nat.mul_comm]; exact Nat.mul_le_mul_right _ h4))
      have hdiv : ∀ t b : Nat, (V.int ((t : Int) * ((g : Nat) : Int) / ((b : Nat) : Int))) = V.int ((t * g / b : Nat) : Int) := fun t b => by rw [← Int.natCast_mul, ← Int.natCast_ediv]
      refine ⟨_, rfl, l, rfl, ⟨_, SqL.of hl⟩, fun D hD => ?_⟩
      refine lc_list (K := K) (a := l) (xs := as.map V.ref) (fun i H1 => Same H' H1 ∧ H1 D = some (.lst (vN ((tbs.take i).map fun tb => tb.1 * (g / tb.2))))) ⟨Same.new hD, upd_same⟩ (fun i H1 _ q => SqL.of (q.1 _ _ hl)) ?_ ?_
      · rintro i x H1 hx ⟨s1, hD'⟩
        obtain ⟨p, tb, rfl, hp, htb', dx, hat⟩ := et.get hx
        obtain ⟨p1, p2, p3, p4⟩ := hall tb (List.mem_of_getElem? htb')
        refine ⟨rfl, tyes_if ?_⟩
        have hat1 := s1 _ _ hat
        refine ⟨_, rfl, p, R, dx, _, _, rfl, hat1, T.clR, T.rTop, rf_top _ _, _, rfl, _, rfl, p, R, dx, _, _, rfl, hat1, T.clR, T.rBot, rf_bottom _ _, _, _, rfl, rfl, by omega, _, _, rfl, rfl, ?_, ?_⟩
        · exact mul_cap (nat_cap p3 (by omega)) (by rw [← Int.natCast_ediv]; exact nat_cap (pow_lt (Nat.le_trans (Nat.div_le_self _ _) hb4) (Nat.lt_succ_self _)) (by omega))
        · refine ⟨_, hD', ?_, Same.then_set s1 hD, ?_⟩
          · rw [vN_len, List.length_map, List.length_take, sizeLine_eq]
            omega
          · rw [upd_same, take_snoc htb', List.map_append]
            show some (HO.lst (vN _ ++ [V.int ((tb.1 : Int) * ((g : Int) / (tb.2 : Int)))])) = some (HO.lst (List.map _ (_ ++ [tb.1 * (g / tb.2)])))
            rw [← Int.natCast_ediv, ← Int.natCast_mul, List.map_append]
            rfl
      · rintro H1 ⟨s1, hD'⟩
        rw [List.length_map, et.1, List.take_length] at hD'
        refine ⟨_, rfl, _, rfl, _, rfl, _, _, rfl, rfl, mul_cap (nat_cap ham (by omega)) (nat_cap (pow_lt hb4 (Nat.lt_succ_self _)) (by omega)), ?_⟩
        have hag : V.int ((a : Int) * ((g : Nat) : Int)) = V.int ((a * g : Nat) : Int) := by rw [← Int.natCast_mul]
        dsimp only
        rw [hag]
        have dpos : ∀ tb ∈ tbs, 1 ≤ tb.1 * (g / tb.2) := fun tb ht => by
          obtain ⟨p1, p2, _⟩ := hall tb ht
          exact Nat.mul_pos p1 (Nat.div_pos (Nat.le_of_dvd hg (hdv tb ht)) p2)
        have pos' : Pos1 (tbs.map fun tb => tb.1 * (g / tb.2)) (a * g) := ⟨Nat.mul_pos ha hg, fun y hy => by
          obtain ⟨tb, ht, rfl⟩ := List.mem_map.mp hy
          exact dpos tb ht⟩
        refine wtd_made hD' pos' (by rw [List.length_map]; omega) fun x H2 s2 nx wx => ?_
        obtain ⟨dx2, lx2, hx2, hw2⟩ := wx
        refine ⟨x, dx2, _, rfl, hx2, wf_no _ _ _ (by decide +kernel) (by decide +kernel) (by decide +kernel), ?_⟩
        refine ⟨x, _, _, rfl, ⟨dx2, lx2, hx2, hw2⟩, pos', by rw [List.length_map]; omega, fun y H3 ws' a' s3 ny wy hy => ?_⟩
        obtain ⟨⟨d, hd, e1, e2⟩, posy⟩ := hy
        refine k y H3 ws' a' (s1.trans (s2.trans s3)) (Same.free (s1.trans s2) ny) wy ⟨⟨?_, fun i x y hxy => ?_⟩, posy, ?_, fun z hz => ?_⟩
        · have := congrArg List.length e2
          rw [List.length_map, List.length_map] at this
          omega
        · have hi : i < tbs.length := by rw [hlen]; exact (List.getElem?_eq_some_iff.mp hxy).1
          obtain ⟨p, xy, _, h2, _, h4, h5, h6, _⟩ := htb i tbs[i] (List.getElem?_eq_getElem hi)
          rw [hxy] at h2
          cases Option.some.inj h2
          have e3 := congrArg (fun l => l[i]?) e2
          simp only [List.getElem?_map, List.getElem?_eq_getElem hi, Option.map_some] at e3
          cases hwi : ws'[i]? with
          | none => rw [hwi] at e3; cases e3
          | some w =>
            rw [hwi] at e3
            have e4 := Option.some.inj e3
            rw [List.getD_eq_getElem?_getD, hwi, Option.getD_some]
            exact whole_eq h5 hd (hdv _ (List.mem_of_getElem? (List.getElem?_eq_getElem hi))) h6 e4 e1
        · have h1 : a' ≤ a * g := by rw [e1]; exact Nat.le_mul_of_pos_left _ hd
          have h2 : a * g < 2 ^ m * 2 ^ (4 * m) := Nat.mul_lt_mul_of_lt_of_le ham hb4 (Nat.pow_pos (by decide))
          rw [← Nat.pow_add] at h2
          have : m + 4 * m = 5 * m := by omega
          rw [this] at h2
          omega
        · have hz2 : d * z ∈ tbs.map fun tb => tb.1 * (g / tb.2) := by rw [e2]; exact List.mem_map.mpr ⟨z, hz, rfl⟩
          obtain ⟨tb, ht, e4⟩ := List.mem_map.mp hz2
          obtain ⟨p1, p2, p3, p4⟩ := hall tb ht
          have h1 : z ≤ tb.1 * (g / tb.2) := by rw [e4]; exact Nat.le_mul_of_pos_left _ hd
          have h2 : tb.1 * (g / tb.2) < 2 ^ m * 2 ^ (4 * m) := Nat.mul_lt_mul_of_lt_of_le p3 (Nat.le_trans (Nat.div_le_self _ _) hb4) (Nat.pow_pos (by decide))
          rw [← Nat.pow_add] at h2
          have : m + 4 * m = 5 * m := by omega
          rw [this] at h2
          omega
end
end Dl

namespace Dl
open PySem PySem.Spec PyProof.Rows L2
/-- sum(xs) of a tuple of ints -/
theorem cr_sumT {X : Cx} {K : PySem.W.Frag} (hK : X.K = K) (hc : X.calm = true) : CallR X (.builtin "sum") (fun vs H Q => ∃ (a : Addr) (ns : List Int), vs = [V.ref a] ∧ SqT K H a (ns.map V.int) ∧ Q (.int ns.sum) H) := by
  subst hK
  intro pins s σ H vs us Q I r h
  obtain ⟨a, ns, rfl, hs, q⟩ := h
  obtain ⟨its, rv, ht, _⟩ := I.tuple hs
  rw [Vals.ref1 r]
  obtain ⟨o, ho, hc', n, hd⟩ := ht
  have hi := rv.ints
  obtain ⟨xs, e⟩ := hi.allInts.items
  have hn : numsOf (intItems xs).toList = ns := by rw [← e]; exact hi.numsOf
  rw [nums_intItems] at hn
  rw [e] at hd
  refine PySem.W.ktm_sumG (I.ok.hd hc) ⟨o, ho, hc', n, hd⟩ fun h' tk t' hk => ?_
  rw [preSum_eq, List.take_of_length_le (by simp), hn]
  exact ⟨.int _, H, I.kept hk, ⟨_, rfl⟩, q⟩
def nOf (r : Rc) : Nat := r.sold.sum + r.gone
/-- by how many thing i was looked at: a sum of fractions, written as numerator and denominator -/
def look (ws : List Nat) (a i : Nat) (rs : List Rc) : Nat × Nat := rs.foldl (fun q r => if i ∈ r.lot then (q.1 * tot ws a r.lot + nOf r * q.2, q.2 * tot ws a r.lot) else q) (0, 1)
theorem look_snoc (ws : List Nat) (a i : Nat) (rs : List Rc) (r : Rc) : look ws a i (rs ++ [r]) = if i ∈ r.lot then ((look ws a i rs).1 * tot ws a r.lot + nOf r * (look ws a i rs).2, (look ws a i rs).2 * tot ws a r.lot) else look ws a i rs := by
  unfold look
  rw [List.foldl_append]
  rfl
def wtL (ws : List Nat) (a : Nat) (rs : List Rc) (done : List Nat) : List (Nat × Nat) := (List.range ws.length).map fun i => if i ∈ done then (soldOf rs i * (look ws a i rs).2, (look ws a i rs).1) else (ws.getD i 0, 1)
structure Situ (n : Nat) (rs : List Rc) : Prop where
  n4 : n ≤ 4
  rs4 : rs.length ≤ 4
  ok : ∀ r ∈ rs, RcOk n r
  few : (rs.map nOf).sum ≤ 24
  sold : ∀ i ∈ shown n rs, 0 < soldOf rs i
def spRound (R W S : Addr) : Sp := fun vs H Q _ => ∃ (p q l : Addr) (ws : List Nat) (a k : Nat) (rs : List Rc), vs = [.ref p, .ref q, .ref l] ∧ WtdAt W H p ws a ∧ BookAt S H q ws.length rs ∧ H l = some (.lst (vN (shown ws.length rs))) ∧ Situ ws.length rs ∧ Pos1 ws a ∧ Bits k ws a ∧ k ≤ 600 ∧
  NewW W H Q (fun ws' a' => Alike (wtL ws a rs (shown ws.length rs)) a ws' a' ∧ Pos1 ws' a' ∧ Bits (20 * k + 85) ws' a')
theorem wtL_len (ws : List Nat) (a : Nat) (rs : List Rc) (done : List Nat) : (wtL ws a rs done).length = ws.length := by unfold wtL; simp
theorem wtL_get {ws : List Nat} {a : Nat} {rs : List Rc} {done : List Nat} {j : Nat} (h : j < ws.length) : (wtL ws a rs done)[j]? = some (if j ∈ done then (soldOf rs j * (look ws a j rs).2, (look ws a j rs).1) else (ws.getD j 0, 1)) := by
  unfold wtL
  rw [List.getElem?_map, List.getElem?_range h]
  rfl
theorem wtL_set {ws : List Nat} {a : Nat} {rs : List Rc} {done : List Nat} {z : Nat} (h : z < ws.length) : (wtL ws a rs done).set z (soldOf rs z * (look ws a z rs).2, (look ws a z rs).1) = wtL ws a rs (done ++ [z]) := by
  apply List.ext_getElem?
  intro i
  by_cases hi : i < ws.length
  · rw [List.getElem?_set, wtL_len, wtL_get hi, wtL_get hi]
    by_cases e : z = i
    · subst e
      rw [if_pos rfl, if_pos h, if_pos (List.mem_append_right _ (List.mem_singleton.mpr rfl))]
    · rw [if_neg e]
      have : (i ∈ done ++ [z]) ↔ i ∈ done := by simp; intro e2; exact absurd e2.symm e
      simp only [this]
  · rw [List.getElem?_eq_none (by rw [List.length_set, wtL_len]; omega), List.getElem?_eq_none (by rw [wtL_len]; omega)]
theorem wtL_nil (ws : List Nat) (a : Nat) (rs : List Rc) : wtL ws a rs [] = ws.map fun z => (z, 1) := by
  apply List.ext_getElem?
  intro i
  by_cases hi : i < ws.length
  · rw [wtL_get hi, if_neg (by simp), List.getElem?_map, List.getElem?_eq_getElem hi, List.getD_eq_getElem?_getD, List.getElem?_eq_getElem hi]
    rfl
  · rw [List.getElem?_eq_none (by rw [wtL_len]; omega), List.getElem?_eq_none (by rw [List.length_map]; omega)]
theorem RatB.ins {R : Addr} {m : Nat} {H H' : Hp} {p : Addr} {xy : Nat × Nat} (i : Ins H H') (h : RatB R m H p xy) : RatB R m H' p xy := let ⟨t, b, ⟨dx, e⟩, q⟩ := h; ⟨t, b, ⟨dx, i _ _ _ _ e⟩, q⟩
theorem tot_bits {k : Nat} {ws : List Nat} {a : Nat} {lot : List Nat} (hb : Bits k ws a) (hl : lot.length ≤ 4) : tot ws a lot < 2 ^ (k + 3) := by
  have hw : ∀ i, ws.getD i 0 < 2 ^ k := fun i => by
    rw [List.getD_eq_getElem?_getD]
    cases e : ws[i]? with
    | none => exact Nat.pow_pos (by decide)
    | some z => exact hb.2 z (List.mem_of_getElem? e)
  have key : ∀ l : List Nat, (l.map fun i => ws.getD i 0).sum ≤ l.length * 2 ^ k := by
    intro l
    induction l with
    | nil => exact Nat.zero_le _
    | cons x r ih =>
      rw [List.map_cons, List.sum_cons, List.length_cons, Nat.succ_mul]
      have := hw x
      omega
  have h1 := key lot
  have h2 : lot.length * 2 ^ k ≤ 4 * 2 ^ k := Nat.mul_le_mul_right _ hl
  have h3 := hb.1
  have h4 : 2 ^ (k + 3) = 8 * 2 ^ k := by rw [Nat.pow_add]; omega
  rw [h4]
  unfold tot
  omega
/-- what the loop over the records keeps: t over b is the sum so far -/
structure LookAt (ws : List Nat) (a k i : Nat) (rs : List Rc) (j c : Nat) (t b : Int) : Prop where
  b0 : 0 < b
  d0 : 0 < (look ws a i rs).2
  eq : t * ((look ws a i rs).2 : Nat) = ((look ws a i rs).1 : Nat) * b
  bb : b.natAbs ≤ (2 ^ (k + 3)) ^ j
  le : (look ws a i rs).1 ≤ c * (look ws a i rs).2
theorem LookAt.t_le {ws : List Nat} {a k i : Nat} {rs : List Rc} {j c : Nat} {t b : Int} (h : LookAt ws a k i rs j c t b) : 0 ≤ t ∧ t ≤ (c : Nat) * b := by
  have h1 := h.b0
  have h2 := h.d0
  have h3 := h.eq
  have h4 := h.le
  generalize (look ws a i rs).1 = N at *
  generalize (look ws a i rs).2 = D at *
  have hD : (0 : Int) < D := by omega
  constructor
  · rcases Int.lt_or_le t 0 with h | h
    · have h5 : t * (D : Nat) < 0 := Int.mul_neg_of_neg_of_pos h hD
      have h6 : 0 ≤ (N : Int) * b := Int.mul_nonneg (by omega) (by omega)
      omega
    · exact h
  · have h5 : (N : Int) * b ≤ ((c * D : Nat) : Int) * b := Int.mul_le_mul_of_nonneg_right (by omega) (by omega)
    rw [← h3, Int.natCast_mul] at h5
    have h6 : (D : Int) * t ≤ (D : Int) * (c * b) := by
      calc (D : Int) * t = t * D := Int.mul_comm _ _
        _ ≤ c * D * b := h5
        _ = (D : Int) * (c * b) := by grind
    exact Int.le_of_mul_le_mul_left h6 hD
theorem LookAt.add {ws : List Nat} {a k i : Nat} {rs : List Rc} {r : Rc} {j c : Nat} {t b t2 b2 t' b' : Int} (h : LookAt ws a k i rs j c t b) (hm : i ∈ r.lot) (hT : 1 ≤ tot ws a r.lot) (hTb : tot ws a r.lot ≤ 2 ^ (k + 3)) (hb2 : 0 < b2) (lo2 : Lows (nOf r : Nat) (tot ws a r.lot : Nat) t2 b2) (hb' : 0 < b') (lo : Lows (t * b2 + t2 * b) (b * b2) t' b') :
    LookAt ws a k i (rs ++ [r]) (j + 1) (c + nOf r) t' b' := by
  have h1 := h.b0
  have h2 := h.d0
  have h3 := h.eq
  have h4 := h.le
  have h5 := h.bb
  have es := look_snoc ws a i rs r
  rw [if_pos hm] at es
  refine ⟨hb', ?_, ?_, ?_, ?_⟩
  · rw [es]
    exact Nat.mul_pos h2 hT
  · rw [es]
    show t' * (((look ws a i rs).2 * tot ws a r.lot : Nat) : Int) = (((look ws a i rs).1 * tot ws a r.lot + nOf r * (look ws a i rs).2 : Nat) : Int) * b'
    generalize (look ws a i rs).1 = N at *
    generalize (look ws a i rs).2 = D at *
    generalize tot ws a r.lot = T at *
    generalize nOf r = n at *
    obtain ⟨e2, _, _⟩ := lo2
    obtain ⟨e, _, _⟩ := lo
    have hp : b * b2 ≠ 0 := Int.ne_of_gt (Int.mul_pos h1 hb2)
    apply Int.eq_of_mul_eq_mul_right hp
    rw [Int.natCast_add, Int.natCast_mul, Int.natCast_mul, Int.natCast_mul]
    grind
  · obtain ⟨_, _, e⟩ := lo
    obtain ⟨_, _, e2⟩ := lo2
    rw [Int.natAbs_mul] at e
    rw [Nat.pow_succ]
    refine Nat.le_trans e (Nat.mul_le_mul h5 (Nat.le_trans e2 ?_))
    rw [Int.natAbs_natCast]
    exact hTb
  · rw [es]
    show (look ws a i rs).1 * tot ws a r.lot + nOf r * (look ws a i rs).2 ≤ (c + nOf r) * ((look ws a i rs).2 * tot ws a r.lot)
    have h6 : (look ws a i rs).1 * tot ws a r.lot ≤ c * (look ws a i rs).2 * tot ws a r.lot := Nat.mul_le_mul_right _ h4
    have h7 : nOf r * (look ws a i rs).2 ≤ nOf r * ((look ws a i rs).2 * tot ws a r.lot) := Nat.mul_le_mul_left _ (Nat.le_mul_of_pos_right _ hT)
    rw [Nat.add_mul, ← Nat.mul_assoc c]
    omega
theorem LookAt.skip {ws : List Nat} {a k i : Nat} {rs : List Rc} {r : Rc} {j c : Nat} {t b : Int} (h : LookAt ws a k i rs j c t b) (hm : ¬ i ∈ r.lot) : LookAt ws a k i (rs ++ [r]) (j + 1) (c + nOf r) t b := by
  have es := look_snoc ws a i rs r
  rw [if_neg hm] at es
  refine ⟨h.b0, by rw [es]; exact h.d0, by rw [es]; exact h.eq, ?_, ?_⟩
  · rw [Nat.pow_succ]
    exact Nat.le_trans h.bb (Nat.le_mul_of_pos_right _ (Nat.pow_pos (by decide)))
  · rw [es]
    refine Nat.le_trans h.le ?_
    rw [Nat.add_mul]
    omega
theorem sum_zip0 {lot sold : List Nat} {i : Nat} (h : sold.sum = 0) : ((lot.zip sold).map fun p => if p.1 = i then p.2 else 0).sum = 0 := by
  induction lot generalizing sold with
  | nil => rfl
  | cons x r ih =>
    cases sold with
    | nil => rfl
    | cons y s =>
      rw [List.sum_cons] at h
      rw [List.zip_cons_cons, List.map_cons, List.sum_cons, ih (by omega)]
      split <;> omega
theorem cnt_zero {i : Nat} {r : Rc} (h : ¬ i ∈ r.lot) : cnt i r = 0 := by
  unfold cnt
  have key : ∀ (l m : List Nat), ¬ i ∈ l → ((l.zip m).map fun p => if p.1 = i then p.2 else 0).sum = 0 := by
    intro l
    induction l with
    | nil => intro m _; rfl
    | cons x l ih =>
      intro m hm
      cases m with
      | nil => rfl
      | cons y m =>
        rw [List.zip_cons_cons, List.map_cons, List.sum_cons, ih m fun z => hm (List.mem_cons_of_mem _ z), if_neg fun z => hm (by rw [← z]; exact List.mem_cons_self)]
  exact key _ _ h
theorem cnt_n0 {i : Nat} {r : Rc} (h : nOf r = 0) : cnt i r = 0 := by
  unfold nOf at h
  exact sum_zip0 (by omega)
theorem soldOf_snoc (rs : List Rc) (r : Rc) (i : Nat) : soldOf (rs ++ [r]) i = soldOf rs i + cnt i r := by
  unfold soldOf
  rw [List.map_append, List.sum_append]
  simp
theorem list_snoc_ind {α : Type} {Pr : List α → Prop} (h0 : Pr []) (h1 : ∀ l a, Pr l → Pr (l ++ [a])) (l : List α) : Pr l := by
  have : ∀ n (l : List α), l.length = n → Pr l := by
    intro n
    induction n with
    | zero => intro l h; rw [List.length_eq_zero_iff.mp h]; exact h0
    | succ n ih =>
      intro l h
      have hne : l ≠ [] := fun z => by rw [z] at h; cases h
      rw [← List.dropLast_concat_getLast hne]
      exact h1 _ _ (ih _ (by rw [List.length_dropLast, h]; rfl))
  exact this _ l rfl
theorem look_d0 {ws : List Nat} {a : Nat} (ha : 1 ≤ a) (i : Nat) (rs : List Rc) : 0 < (look ws a i rs).2 := by
  refine list_snoc_ind (Pr := fun rs => 0 < (look ws a i rs).2) (Nat.zero_lt_one) (fun rs r ih => ?_) rs
  rw [look_snoc]
  split
  · exact Nat.mul_pos ih (tot_pos ha)
  · exact ih
theorem look_n0 {ws : List Nat} {a : Nat} (ha : 1 ≤ a) (i : Nat) (rs : List Rc) (h : 0 < soldOf rs i) : 0 < (look ws a i rs).1 := by
  refine list_snoc_ind (Pr := fun rs => 0 < soldOf rs i → 0 < (look ws a i rs).1) (fun h => absurd h (Nat.lt_irrefl 0)) (fun rs r ih h => ?_) rs h
  rw [look_snoc]
  rw [soldOf_snoc] at h
  have hT := tot_pos (ws := ws) (lot := r.lot) ha
  have hD := look_d0 (ws := ws) ha i rs
  by_cases hm : i ∈ r.lot
  · rw [if_pos hm]
    by_cases hn : nOf r = 0
    · rw [cnt_n0 hn] at h
      exact Nat.add_pos_left (Nat.mul_pos (ih (by omega)) hT) _
    · exact Nat.add_pos_right _ (Nat.mul_pos (by omega) hD)
  · rw [if_neg hm]
    rw [cnt_zero hm] at h
    exact ih (by omega)
end Dl

namespace Dl
open PySem PySem.Spec PyProof.Rows L2
theorem cnt_le (i : Nat) (r : Rc) : cnt i r ≤ r.sold.sum := by
  unfold cnt
  have key : ∀ (l m : List Nat), ((l.zip m).map fun p => if p.1 = i then p.2 else 0).sum ≤ m.sum := by
    intro l
    induction l with
    | nil => intro m; exact Nat.zero_le _
    | cons x l ih =>
      intro m
      cases m with
      | nil => exact Nat.le_refl _
      | cons y m =>
        rw [List.zip_cons_cons, List.map_cons, List.sum_cons, List.sum_cons]
        have := ih m
        dsimp only
        split <;> omega
  exact key _ _
theorem soldOf_le (i : Nat) (rs : List Rc) : soldOf rs i ≤ (rs.map nOf).sum := by
  unfold soldOf
  induction rs with
  | nil => exact Nat.le_refl _
  | cons r rs ih =>
    rw [List.map_cons, List.sum_cons, List.map_cons, List.sum_cons]
    have := cnt_le i r
    unfold nOf at *
    omega
theorem sum_take_le (f : Rc → Nat) (rs : List Rc) (j : Nat) : ((rs.take j).map f).sum ≤ (rs.map f).sum := by
  induction rs generalizing j with
  | nil => simp
  | cons r rs ih =>
    cases j with
    | zero => simp
    | succ j =>
      rw [List.take_succ_cons, List.map_cons, List.sum_cons, List.map_cons, List.sum_cons]
      have := ih j
      omega
theorem LookAt.pos {ws : List Nat} {a k i : Nat} {rs : List Rc} {j c : Nat} {t b : Int} (h : LookAt ws a k i rs j c t b) (hn : 0 < (look ws a i rs).1) : 0 < t := by
  have h1 := h.b0
  have h2 := h.d0
  have h3 := h.eq
  rcases Int.lt_or_le 0 t with h | h
  · exact h
  · have h4 : t * ((look ws a i rs).2 : Nat) ≤ 0 := Int.mul_nonpos_of_nonpos_of_nonneg h (by omega)
    have h5 : 0 < ((look ws a i rs).1 : Int) * b := Int.mul_pos (by omega) h1
    omega
theorem LookAt.caps {ws : List Nat} {a k i : Nat} {rs : List Rc} {j c : Nat} {t b : Int} (h : LookAt ws a k i rs j c t b) (hk : k ≤ 600) (hj : j ≤ 4) (hc : c ≤ 24) : b ≤ 2 ^ (4 * k + 12) ∧ t < 2 ^ (4 * k + 17) ∧ Cp t ∧ Cp b := by
  have h1 := h.b0
  obtain ⟨h0, h2⟩ := h.t_le
  have h3 := h.bb
  have h4 : (2 ^ (k + 3)) ^ j ≤ 2 ^ (4 * k + 12) := by
    rw [← Nat.pow_mul]
    exact Nat.pow_le_pow_right (by decide) (by have : (k + 3) * j ≤ (k + 3) * 4 := Nat.mul_le_mul_left _ hj; omega)
  have hb : b.natAbs ≤ 2 ^ (4 * k + 12) := Nat.le_trans h3 h4
  have hbI : b ≤ ((2 ^ (4 * k + 12) : Nat) : Int) := by omega
  have hct : (c : Int) * b ≤ 24 * b := Int.mul_le_mul_of_nonneg_right (by omega) (by omega)
  have e : 2 ^ (4 * k + 17) = 32 * 2 ^ (4 * k + 12) := by rw [show 4 * k + 17 = 5 + (4 * k + 12) by omega, Nat.pow_add]
  have hp : 0 < 2 ^ (4 * k + 12) := Nat.pow_pos (by decide)
  have ht : t < ((2 ^ (4 * k + 17) : Nat) : Int) := by rw [e]; omega
  refine ⟨by simpa using hbI, by simpa using ht, bd_le (k := 4 * k + 17) (by omega) (by omega), bd_le (k := 4 * k + 17) (by omega) (by omega)⟩
theorem over_eq {ws : List Nat} {a k i : Nat} {rs : List Rc} {j c sold : Nat} {t b t1 b1 t' b' : Int} (h : LookAt ws a k i rs j c t b) (hk : k ≤ 600) (hj : j ≤ 4) (hc : c ≤ 24) (hs : 0 < sold) (hs24 : sold ≤ 24) (hn : 0 < (look ws a i rs).1) (hb1 : 0 < b1) (lo1 : Lows (sold : Nat) 1 t1 b1) (hb' : 0 < b')
    (lo : Lows (t1 * b) (b1 * t) t' b') : ∃ tn bn : Nat, t' = (tn : Int) ∧ b' = (bn : Int) ∧ 0 < tn ∧ 0 < bn ∧ tn * (look ws a i rs).1 = sold * (look ws a i rs).2 * bn ∧ tn < 2 ^ (4 * k + 17) ∧ bn < 2 ^ (4 * k + 17) := by
  obtain ⟨c1, c2, _, _⟩ := h.caps hk hj hc
  have ht := h.pos hn
  obtain ⟨e1, _, e3⟩ := lo1
  have eb : b1 = 1 := by omega
  subst eb
  have et : t1 = sold := by omega
  subst et
  obtain ⟨f1, f2, f3⟩ := lo
  have h1 := h.b0
  have h2 := h.d0
  have h3 := h.eq
  rw [Int.one_mul] at f1 f3
  generalize (look ws a i rs).1 = N at *
  generalize (look ws a i rs).2 = D at *
  have key : t' * N = sold * D * b' := by
    apply Int.eq_of_mul_eq_mul_right (Int.ne_of_gt h1)
    grind
  have hsd : 0 < (sold : Int) * D * b' := Int.mul_pos (Int.mul_pos (by omega) (by omega)) hb'
  have ht' : 0 < t' := by
    rcases Int.lt_or_le 0 t' with h | h
    · exact h
    · have : t' * (N : Int) ≤ 0 := Int.mul_nonpos_of_nonpos_of_nonneg h (by omega)
      omega
  have e : 2 ^ (4 * k + 17) = 32 * 2 ^ (4 * k + 12) := by rw [show 4 * k + 17 = 5 + (4 * k + 12) by omega, Nat.pow_add]
  have hp : 0 < 2 ^ (4 * k + 12) := Nat.pow_pos (by decide)
  have hc1 : b.natAbs ≤ 2 ^ (4 * k + 12) := by
    have : ((2 ^ (4 * k + 12) : Nat) : Int) = 2 ^ (4 * k + 12) := by simp
    omega
  have hc2 : t.natAbs < 2 ^ (4 * k + 17) := by
    have : ((2 ^ (4 * k + 17) : Nat) : Int) = 2 ^ (4 * k + 17) := by simp
    omega
  refine ⟨t'.natAbs, b'.natAbs, by omega, by omega, by omega, by omega, ?_, ?_, ?_⟩
  · apply Int.ofNat_inj.mp
    rw [Int.natCast_mul, Int.natCast_mul, Int.natCast_mul, Int.natAbs_of_nonneg (by omega), Int.natAbs_of_nonneg (by omega)]
    exact key
  · rw [Int.natAbs_mul, Int.natAbs_natCast] at f2
    have : sold * b.natAbs ≤ 24 * 2 ^ (4 * k + 12) := Nat.mul_le_mul hs24 hc1
    rw [e]
    omega
  · omega
theorem sum_cast (l : List Nat) : (l.map fun (n : Nat) => (n : Int)).sum = ((l.sum : Nat) : Int) := by
  induction l with
  | nil => rfl
  | cons x r ih => rw [List.map_cons, List.sum_cons, ih, List.sum_cons, Int.natCast_add]
section
variable {P : Program} {w : World} {K : PySem.W.Frag} {mg : Str → Option Value} {base : Heap} {R W S D : Addr}
abbrev s_one_round : Stmt := tops 27
abbrev N_one_round : List Str := ["rule", "book", "shown", "weight", "weights", "thing", "looked", "lot", "sold", "gone"]
theorem sc_one_round : FnScope N_one_round ["rule", "book", "shown"] (defScope s_one_round) := ⟨rfl, rfl, rfl, by decide +kernel, rfl, by decide +kernel, by decide +kernel⟩
-- slots: 0 rule, 1 book, 2 shown, 3 weight, 4 weights, 5 thing, 6 looked, 7 lot, 8 sold, 9 gone
theorem ok_one_round {f fi : Addr} {fd fdi : FuncData} {st : Stmt} (T : Tx K mg R W S) (IB : ItB K mg S fi fdi st) (IT : ItT st) (hR1 : HR1 P w K mg base R) (hR2 : HR2 P w K mg base R) (hadd : HasO P w K mg base 43 R .Add ["self", "other"] (spAdd R)) (hR_over : HasM P w K mg base 43 R "over" ["self", "other"] (spOver R))
    (hW_total_of : HasM P w K mg base 1 W "total_of" ["self", "lot"] (spTotal W)) (hS_sold_of : HasM P w K mg base 1 S "sold_of" ["self", "thing"] (spSold S)) (h_whole_rule : Has P w K mg base 34 "whole_rule" ["weights", "aside"] [] (spWhole R W)) (F : Fun K "one_round" "one_round" s_one_round f fd) :
    FnOk P w K mg base CX0 44 f fd ["rule", "book", "shown"] (spRound R W S) := by
  refine F.ok sc_one_round (fun vs H Q E h => ?_) (fun cdv A outer s H vs Q E hr h => ?_)
  · obtain ⟨p, q, l, ws, a, k, rs, rfl, _⟩ := h
    rfl
  · obtain ⟨p, qb, l, ws, a, k, rs, rfl, ⟨dx, lw, hp, hw⟩, ⟨dy, lb, hq, as, hlb, ea⟩, hl, si, pos, bits, hk, kk⟩ := h
    refine ⟨_, (pss_cons (ps_setLc (i := 4) (own := [("weight", 3)]) rfl sc_one_round.nd rfl rfl (sw_true rfl rfl rfl (by decide +kernel)) (pi_tup (pe_fld (pv 0) rfl)) (blkOk_by (N := N_one_round) (sc := defScope s_one_round) (by decide +kernel)) (fun _ _ _ _ _ => (pg_name (i := 3) sc_one_round.nd rfl (Or.inl rfl))) (fun _ _ _ _ _ => pts_nil) (fun _ _ _ _ _ => (pe_makeH hR1 (hr.mono (by decide)) rfl (pa_cons (pv 3) pa_nil))))
    (pss_cons (ps_for PassesOwn.never rfl (pi_list (pv 2)) (pg_name (i := 5) sc_one_round.nd rfl (Or.inl rfl))
    (pss_cons (ps_set (i := 6) sc_one_round.nd rfl (Or.inl rfl) (pe_makeH hR1 (hr.mono (by decide)) rfl (pa_cons pe_int pa_nil)))
    (pss_cons (ps_for PassesOwn.never rfl (pi_own IB IT (hr.mono (by decide)) (pv 1)) (pg_tup rfl (pgs_cons (pg_name (i := 7) sc_one_round.nd rfl (Or.inl rfl)) (pgs_cons (pg_name (i := 8) sc_one_round.nd rfl (Or.inl rfl)) (pgs_cons (pg_name (i := 9) sc_one_round.nd rfl (Or.inl rfl)) pgs_nil))))
    (pss_one (ps_if (pt_cmpR op_in_seq (pv 5) (pv 7) (by rfl)) (pss_one (ps_set (i := 6) sc_one_round.nd rfl (Or.inl rfl) (pe_op (op_ownH hadd (hr.mono (by decide))) (pv 6) (pe_makeH hR2 (hr.mono (by decide)) rfl (pa_cons (pe_op op_add (pe_callB (cr_sumT (K := K) rfl rfl) (by rfl) T.sum (by decide +kernel) (pa_cons (pv 8) pa_nil)) (pv 9)) (pa_cons (pe_methH (pv 0) T.clW hW_total_of (hr.mono (by decide)) (pa_cons (pv 7) pa_nil)) pa_nil)))))) pss_nil)))
    (pss_one (ps_asg (pe_methH (pe_makeH hR1 (hr.mono (by decide)) rfl (pa_cons (pe_methH (pv 1) T.clS hS_sold_of (hr.mono (by decide)) (pa_cons (pv 5) pa_nil)) pa_nil)) T.clR hR_over (hr.mono (by decide)) (pa_cons (pv 6) pa_nil)) (pg_sub (pv 4) (pv 5) set_list))))))
    (pss_one (ps_ret (pe_callH h_whole_rule (hr.mono (by decide)) rfl (pa_cons (pv 4) (pa_cons (pe_fld (pv 0) rfl) pa_nil))))))), ?_⟩
    refine ⟨_, rfl, p, W, dx, _, _, rfl, hp, T.clW, T.wWei, wf_weights _ _ _, lw, rfl, ⟨_, SqT.of hw⟩, fun D hD => ?_⟩
    have n4 := si.n4
    have rs4 := si.rs4
    have few := si.few
    refine lc_tup (K := K) (a := lw) (xs := vN ws) (fun i H' => Same H H' ∧ LstOf (RatB R (4 * k + 17)) H' D ((ws.take i).map fun z => (z, 1))) ⟨Same.new hD, [], upd_same, Each.nil⟩ (fun i H' _ q => SqT.of (q.1 _ _ hw)) ?_ ?_
    · rintro i x H' hx ⟨s1, bs, hD', eb⟩
      obtain ⟨z, hz, rfl⟩ := vN_get hx
      have hzm := List.mem_of_getElem? hz
      refine ⟨rfl, tyes_if ?_⟩
      refine ⟨_, rfl, rat_made (by decide) fun x H2 t b s2 nx rx hb lo => ?_⟩
      refine ⟨_, s2 _ _ hD', ?_, Same.then_set (Same.trans s1 s2) hD, bs ++ [x], ?_, ?_⟩
      · rw [List.length_map, eb.1, List.length_map, List.length_take, sizeLine_eq]
        omega
      · rw [upd_same, List.map_append]
        rfl
      · rw [take_snoc hz, List.map_append]
        refine (eb.imp fun a r z => RatB.ins (Ins.of_lst s2 (s2 _ _ hD')) z).snoc (RatB.ins (Ins.of_lst (Same.refl _) (s2 _ _ hD')) ?_)
        obtain ⟨e1, e2, e3⟩ := lo
        have eb1 : b = 1 := by omega
        subst eb1
        have et : t = z := by omega
        subst et
        have hb2 := bits.2 z hzm
        have hp2 : 2 ^ k ≤ 2 ^ (4 * k + 17) := Nat.pow_le_pow_right (by decide) (by omega)
        exact ⟨z, 1, rx, pos.2 z hzm, by decide, rfl, by omega, Nat.one_lt_two_pow (by omega)⟩
    rintro H1 ⟨s1, hD1⟩
    rw [vN_len, List.take_length, ← wtL_nil ws a rs] at hD1
    refine ⟨_, rfl, l, rfl, ⟨_, SqL.of (s1 _ _ hl)⟩, ?_⟩
    refine for_list (K := K) (a := l) (xs := vN (shown ws.length rs)) (fun i σ H' => ∃ v3 v5 v6 v7 v8 v9, σ = [some (.ref p), some (.ref qb), some (.ref l), v3, some (.ref D), v5, v6, v7, v8, v9] ∧ Same H H' ∧ LstOf (RatB R (4 * k + 17)) H' D (wtL ws a rs ((shown ws.length rs).take i)))
      ⟨_, _, _, _, _, _, rfl, s1, by rw [List.take_zero]; exact hD1⟩ (fun i σ H' _ ⟨_, _, _, _, _, _, _, q, _⟩ => SqL.of (q _ _ hl)) ?_ ?_
    · rintro i x σ H' hx ⟨v3, v5, v6, v7, v8, v9, rfl, s2, bs, hD2, eb⟩
      obtain ⟨z, hz, rfl⟩ := vN_get hx
      have hzm : z ∈ shown ws.length rs := List.mem_of_getElem? hz
      have hzl : z < ws.length := by
        have := (List.mem_filter.mp hzm).1
        exact List.mem_range.mp this
      have hsold := si.sold z hzm
      refine rat_made (t := 0) (b := 1) (by decide) fun q0 H3 t0 b0 s3 nq0 rq0 hb0 lo0 => ?_
      have s23 := s2.trans s3
      refine ⟨_, rfl, qb, dy, _, lb, _, rfl, s23 _ _ hq, sf_records _ _, s23 _ _ hlb, ?_⟩
      refine for_list (K := K) (a := lb) (xs := as.map V.ref) (fun j σ H4 => ∃ q t b v7 v8 v9, σ = [some (.ref p), some (.ref qb), some (.ref l), v3, some (.ref D), some (.int z), some (.ref q), v7, v8, v9] ∧ Same H' H4 ∧ RatAt R H4 q t b ∧ LookAt ws a k z (rs.take j) j (((rs.take j).map nOf).sum) t b)
        ⟨q0, t0, b0, _, _, _, rfl, s3, rq0, ⟨hb0, Nat.zero_lt_one, ?_, ?_, Nat.zero_le _⟩⟩ (fun j σ H4 _ ⟨_, _, _, _, _, _, _, q, _⟩ => SqL.of ((s2.trans q) _ _ hlb)) ?_ ?_
      · obtain ⟨e1, _, _⟩ := lo0
        show t0 * 1 = 0 * b0
        omega
      · rw [Nat.pow_zero]
        exact lo0.2.2
      · rintro j x σ H4 hx ⟨q, t, b, v7, v8, v9, rfl, s4, rq, la⟩
        obtain ⟨c, r, rfl, hc, hr', pl, ps, e1, e2, e3⟩ := ea.get hx
        have s24 := s2.trans s4
        have hrm := List.mem_of_getElem? hr'
        have okr := si.ok r hrm
        refine ⟨c, _, rfl, SqT.of (s24 _ _ e1), rfl, _, _, rfl, _, _, rfl, _, _, rfl, rfl, ?_⟩
        refine ⟨_, rfl, _, rfl, pl, vN r.lot, rfl, .inr (SqT.of (s24 _ _ e2)), rfl, flat_vN _, ?_⟩
        have etake : ((rs.take (j + 1)).map nOf).sum = ((rs.take j).map nOf).sum + nOf r := by
          rw [take_snoc hr', List.map_append, List.sum_append]
          simp
        have hj : j < rs.length := (List.getElem?_eq_some_iff.mp hr').1
        have hc24 : ((rs.take j).map nOf).sum + nOf r ≤ 24 := by
          rw [← etake]
          exact Nat.le_trans (sum_take_le nOf rs (j + 1)) few
        by_cases hm : z ∈ r.lot
        · refine ⟨true, ?_, iteT ?_⟩
          · show V.bl (inV _ _) = V.bl true
            rw [inV_nat, decide_eq_true hm]
          · have hlen : r.lot.length ≤ 4 := Nat.le_trans okr.asc.len n4
            have hT := tot_pos (ws := ws) (lot := r.lot) pos.1
            have hTb := tot_bits bits hlen
            refine ⟨_, rfl, _, rfl, ps, r.sold.map (fun (n : Nat) => (n : Int)), rfl, SqT.of (by rw [s24 _ _ e3, List.map_map]; rfl), _, rfl, _, _, rfl, rfl, ?_⟩
            refine ⟨_, rfl, p, dx, _, rfl, s24 _ _ hp, wf_no _ _ _ (by decide +kernel) (by decide +kernel) (by decide +kernel), _, rfl, p, pl, ws, a, r.lot, rfl, ⟨dx, lw, s24 _ _ hp, s24 _ _ hw⟩, s24 _ _ e2, by omega, okr.asc.lt, fun H5 s5 => ?_⟩
            have en : ((r.sold.map fun (n : Nat) => (n : Int)).sum + (r.gone : Int)) = ((nOf r : Nat) : Int) := by
              rw [sum_cast]
              unfold nOf
              rw [Int.natCast_add]
            refine rat_made (t := (r.sold.map fun (n : Nat) => (n : Int)).sum + (r.gone : Int)) (by omega) fun y H6 t2 b2 s6 ny ry hb2 lo2 => ?_
            rw [en] at lo2
            obtain ⟨d1, hq1⟩ := rq
            obtain ⟨d2, hy2⟩ := ry
            obtain ⟨_, _, c1, c2⟩ := la.caps hk (by omega) (by omega)
            have c3 : Cp t2 := bd_le (k := 5) (by obtain ⟨_, h, _⟩ := lo2; omega) (by decide)
            have c4 : Cp b2 := bd_le (k := k + 3) (by obtain ⟨_, _, h⟩ := lo2; rw [Int.natAbs_natCast] at h; omega) (by omega)
            have s56 := s5.trans s6
            refine ⟨q, y, d1, _, d2, _, rfl, rfl, s56 _ _ hq1, hy2, q, y, t, b, t2, b2, rfl, ⟨⟨d1, s56 _ _ hq1⟩, ⟨d2, hy2⟩, la.b0, hb2, c1, c2, c3, c4⟩, fun x H7 t' b' s7 nx rx hb' lo => ?_⟩
            rw [etake, take_snoc hr']
            exact ⟨x, t', b', _, _, _, rfl, s4.trans (s56.trans s7), rx, la.add hm hT (by omega) hb2 lo2 hb' lo⟩
        · refine ⟨false, ?_, iteF ?_⟩
          · show V.bl (inV _ _) = V.bl false
            rw [inV_nat, decide_eq_false hm]
          · rw [etake, take_snoc hr']
            exact ⟨q, t, b, _, _, _, rfl, s4, rq, la.skip hm⟩
      · rintro σ H4 ⟨q, t, b, v7, v8, v9, rfl, s4, rq, la⟩
        rw [List.length_map, ea.1, List.take_length] at la
        have s24 := s2.trans s4
        have hn0 := look_n0 (ws := ws) pos.1 z rs hsold
        have ht := la.pos hn0
        obtain ⟨_, _, c1, c2⟩ := la.caps hk rs4 few
        refine ⟨_, rfl, qb, dy, _, rfl, s24 _ _ hq, sf_no _ _ (by decide +kernel) (by decide +kernel), _, rfl, qb, z, _, rs, rfl, ⟨dy, lb, s24 _ _ hq, as, s24 _ _ hlb, ea.imp fun _ _ h => RcT.same s24 h⟩, si.ok, fun H5 s5 => ?_⟩
        refine rat_made (t := (soldOf rs z : Nat)) (b := 1) (by decide) fun x H6 t1 b1 s6 nx rx hb1 lo1 => ?_
        obtain ⟨d1, hx1⟩ := rx
        obtain ⟨d2, hq2⟩ := rq
        have s56 := s5.trans s6
        have hs24 : soldOf rs z ≤ 24 := Nat.le_trans (soldOf_le z rs) few
        have c3 : Cp t1 := bd_le (k := 5) (by obtain ⟨_, h, _⟩ := lo1; omega) (by decide)
        have c4 : Cp b1 := bd_le (k := 1) (by obtain ⟨_, _, h⟩ := lo1; omega) (by decide)
        refine ⟨x, d1, _, rfl, hx1, rf_no _ _ (by decide +kernel) (by decide +kernel), _, rfl, x, q, t1, b1, t, b, rfl, ⟨⟨d1, hx1⟩, ⟨d2, s56 _ _ hq2⟩, hb1, la.b0, c3, c4, c1, c2⟩, ht, fun y H7 t' b' s7 ny ry hb' lo => ?_⟩
        have s47 := s4.trans (s56.trans s7)
        have hD7 := s47 _ _ hD2
        refine ⟨_, rfl, _, rfl, D, _, _, z, rfl, rfl, hD7, by rw [List.length_map, eb.1, wtL_len]; exact ixN_nat hzl, ?_⟩
        refine ⟨_, _, _, _, _, _, rfl, Same.then_set (s2.trans s47) hD, bs.set z y, by rw [upd_same, List.map_set], ?_⟩
        rw [take_snoc hz, ← wtL_set hzl]
        obtain ⟨tn, bn, rfl, rfl, g1, g2, g3, g4, g5⟩ := over_eq la hk rs4 few hsold hs24 hn0 hb1 lo1 hb' lo
        exact (eb.imp fun _ _ h => RatB.ins (Ins.of_lst s47 hD7) h).set z (RatB.ins (Ins.of_lst (Same.refl _) hD7) ⟨tn, bn, ry, g1, g2, g3, g4, g5⟩)
    · rintro σ H' ⟨v3, v5, v6, v7, v8, v9, rfl, s2, hD2⟩
      rw [vN_len, List.take_length] at hD2
      refine ⟨_, rfl, _, rfl, p, W, dx, _, _, rfl, s2 _ _ hp, T.clW, T.wAs, wf_aside _ _ _, ?_⟩
      have hp2 : 2 ^ k ≤ 2 ^ (4 * k + 17) := Nat.pow_le_pow_right (by decide) (by omega)
      refine ⟨D, _, a, 4 * k + 17, rfl, hD2, by rw [wtL_len]; exact n4, pos.1, Nat.lt_of_lt_of_le bits.1 hp2, by omega, fun y H3 ws' a' s3 ny wy hy => ?_⟩
      rw [show 5 * (4 * k + 17) = 20 * k + 85 by omega] at hy
      exact kk y H3 ws' a' (s2.trans s3) (Same.free s2 ny) wy hy
end
end Dl

namespace Dl
open PySem PySem.Spec PyProof.Rows L2
/-- the bits of the weights after i rounds -/
def gr (k : Nat) : Nat → Nat
  | 0 => k
  | i + 1 => 20 * gr k i + 85
def Steps (rs : List Rc) : Nat → List Nat → Nat → List Nat → Nat → Prop
  | 0, ws, a, ws', a' => Divd ws a ws' a'
  | i + 1, ws, a, ws', a' => ∃ w1 a1, Steps rs i ws a w1 a1 ∧ Pos1 w1 a1 ∧ w1.length = ws.length ∧ Alike (wtL w1 a1 rs (shown w1.length rs)) a1 ws' a'
def spLearned (W S : Addr) : Sp := fun vs H Q _ => ∃ (p q : Addr) (ws : List Nat) (a k n : Nat) (rs : List Rc), vs = [.ref p, .ref q, .int n] ∧ WtdAt W H p ws a ∧ BookAt S H q ws.length rs ∧ Situ ws.length rs ∧ Pos1 ws a ∧ Bits k ws a ∧ n ≤ 2 ∧ (∀ i, i < n → gr k i ≤ 600) ∧
  NewW W H Q (fun ws' a' => Steps rs n ws a ws' a' ∧ Pos1 ws' a' ∧ ws'.length = ws.length ∧ Bits (gr k n) ws' a')
theorem Divd.len {ws : List Nat} {a : Nat} {ws' : List Nat} {a' : Nat} (h : Divd ws a ws' a') : ws'.length = ws.length := by
  obtain ⟨g, _, _, e⟩ := h
  rw [e, List.length_map]
theorem Divd.bits {k : Nat} {ws : List Nat} {a : Nat} {ws' : List Nat} {a' : Nat} (h : Divd ws a ws' a') (b : Bits k ws a) : Bits k ws' a' := by
  obtain ⟨g, hg, e1, e⟩ := h
  refine ⟨Nat.lt_of_le_of_lt ?_ b.1, fun z hz => Nat.lt_of_le_of_lt (Nat.le_mul_of_pos_left z hg) (b.2 (g * z) (by rw [e]; exact List.mem_map.mpr ⟨z, hz, rfl⟩))⟩
  rw [e1]
  exact Nat.le_mul_of_pos_left _ hg
section
variable {P : Program} {w : World} {K : PySem.W.Frag} {mg : Str → Option Value} {base : Heap} {R W S D : Addr}
abbrev s_learned : Stmt := tops 28
abbrev N_learned : List Str := ["rule", "book", "rounds", "shown", "thing", "found", "_"]
theorem sc_learned : FnScope N_learned ["rule", "book", "rounds"] (defScope s_learned) := ⟨rfl, rfl, rfl, by decide +kernel, rfl, by decide +kernel, by decide +kernel⟩
-- slots: 0 rule, 1 book, 2 rounds, 3 shown, 4 thing, 5 found, 6 _
theorem ok_learned {f : Addr} {fd : FuncData} (T : Tx K mg R W S) (hW_reduced : HasM P w K mg base 33 W "reduced" ["self"] (spReduced W)) (hS_sold_of : HasM P w K mg base 1 S "sold_of" ["self", "thing"] (spSold S)) (h_check_alike : Has P w K mg base 1 "check_alike" ["rule", "book"] [] (spAlike W S))
    (h_shown_things : Has P w K mg base 2 "shown_things" ["book"] [] (spShown S)) (h_one_round : Has P w K mg base 44 "one_round" ["rule", "book", "shown"] [] (spRound R W S)) (F : FunD K "learned" "learned" (defArgs s_learned) (defBody s_learned) (defScope s_learned) [] [("rounds", .int 1)] f fd) :
    FnOk P w K mg base CX0 45 f fd ["rule", "book", "rounds"] (spLearned W S) := by
  refine F.ok sc_learned (fun vs H Q E h => ?_) (fun cdv A outer s H vs Q E hr h => ?_)
  · obtain ⟨p, q, ws, a, k, n, rs, rfl, _⟩ := h
    rfl
  · obtain ⟨p, q, ws, a, k, n, rs, rfl, wp, bq, si, pos, bits, hn, hk, kk⟩ := h
    obtain ⟨tt, hmr⟩ := T.mr
    obtain ⟨dx, lw, hp, hw⟩ := id wp
    obtain ⟨dy, lb, hq, as, hlb, ea⟩ := id bq
    refine ⟨_, PSs.nox (pss_cons (ps_expr (pe_callH h_check_alike (hr.mono (by decide)) rfl (pa_cons (pv 0) (pa_cons (pv 1) pa_nil))))
    (pss_cons (ps_if (PW.pt (pw_or (pt_cmpR op_lt (pv 2) pe_int (nomark _)) (pw_or1 (pt_cmpR op_gt (pv 2) (pe_glob (v := .int 2) rfl hmr ⟨_, rfl⟩) (nomark _))))) pss_never pss_nil)
    (pss_cons (ps_set (i := 3) sc_learned.nd rfl (Or.inl rfl) (pe_callH h_shown_things (hr.mono (by decide)) rfl (pa_cons (pv 1) pa_nil)))
    (pss_cons (ps_for PassesOwn.never rfl (pi_list (pv 3)) (pg_name (i := 4) sc_learned.nd rfl (Or.inl rfl))
    (pss_one (ps_if (pt_cmpR op_eq (pe_methH (pv 1) T.clS hS_sold_of (hr.mono (by decide)) (pa_cons (pv 4) pa_nil)) pe_int (nomark _)) pss_never pss_nil)))
    (pss_cons (ps_set (i := 5) sc_learned.nd rfl (Or.inl rfl) (pe_methH0 (pv 0) T.clW hW_reduced (hr.mono (by decide))))
    (pss_cons (ps_for PassesOwn.never rfl (pi_range1 rfl T.range (pa_cons (pv 2) pa_nil)) (pg_name (i := 6) sc_learned.nd rfl (Or.inl rfl))
    (pss_one (ps_set (i := 5) sc_learned.nd rfl (Or.inl rfl) (pe_callH h_one_round (hr.mono (by decide)) rfl (pa_cons (pv 5) (pa_cons (pv 1) (pa_cons (pv 3) pa_nil)))))))
    (pss_one (ps_ret (pv 5))))))))), ?_⟩
    refine ⟨_, rfl, _, rfl, p, q, ws, a, rs, rfl, wp, bq, ?_⟩
    refine ⟨_, rfl, _, _, rfl, rfl, _, rfl, ?_⟩
    refine ifN (by omega) ⟨_, rfl, _, _, rfl, rfl, _, rfl, ?_⟩
    refine ifN (by omega) ?_
    refine ⟨_, rfl, q, _, rs, rfl, bq, by have := si.n4; omega, by have := si.rs4; omega, fun l H1 s1 nl hl => ?_⟩
    refine ⟨_, rfl, l, rfl, ⟨_, SqL.of hl⟩, ?_⟩
    refine for_list (K := K) (a := l) (xs := vN (shown ws.length rs)) (fun i σ H' => ∃ v4 v5 v6, σ = [some (.ref p), some (.ref q), some (.int n), some (.ref l), v4, v5, v6] ∧ Same H1 H') ⟨_, _, _, rfl, Same.refl _⟩ (fun i σ H' _ ⟨_, _, _, _, q⟩ => SqL.of (q _ _ hl)) ?_ ?_
    · rintro i x σ H' hx ⟨v4, v5, v6, rfl, s2⟩
      obtain ⟨z, hz, rfl⟩ := vN_get hx
      have hsold := si.sold z (List.mem_of_getElem? hz)
      have s12 := s1.trans s2
      refine ⟨_, rfl, q, dy, _, rfl, s12 _ _ hq, sf_no _ _ (by decide +kernel) (by decide +kernel), _, rfl, q, z, _, rs, rfl, bq.same s12, si.ok, fun H2 s3 => ?_⟩
      exact ⟨rfl, _, rfl, ifN (int_ne (by omega)) ⟨_, _, _, rfl, s2.trans s3⟩⟩
    · rintro σ H' ⟨v4, v5, v6, rfl, s2⟩
      have s12 := s1.trans s2
      refine ⟨_, rfl, p, dx, _, rfl, s12 _ _ hp, wf_no _ _ _ (by decide +kernel) (by decide +kernel) (by decide +kernel), p, ws, a, rfl, wp.same s12, pos, by have := si.n4; omega, fun x H2 ws1 a1 s3 nx wx hx => ?_⟩
      refine ⟨_, rfl, n, rfl, by omega, by omega, ?_⟩
      rw [Int.toNat_natCast]
      refine for_range (lo := 0) (n := n) (fun i σ H' => ∃ v4 x v6 ws' a', σ = [some (.ref p), some (.ref q), some (.int n), some (.ref l), v4, some (.ref x), v6] ∧ Same H1 H' ∧ H x = none ∧ WtdAt W H' x ws' a' ∧ Steps rs i ws a ws' a' ∧ Pos1 ws' a' ∧ ws'.length = ws.length ∧ Bits (gr k i) ws' a')
        ⟨_, x, _, ws1, a1, rfl, s2.trans s3, Same.free s12 nx, wx, hx.1, hx.2, hx.1.len, hx.1.bits bits⟩ ?_ ?_
      · rintro i σ H3 hi ⟨v4, x, v6, ws', a', rfl, s4, nx, wx, st, po, len, bi⟩
        refine ⟨_, rfl, _, rfl, _, rfl, x, q, l, ws', a', gr k i, rs, rfl, wx, by rw [len]; exact bq.same (s1.trans s4), by rw [len]; exact s4 _ _ hl, by rw [len]; exact si, po, bi, hk i hi, fun y H4 ws2 a2 s5 ny wy hy => ?_⟩
        refine ⟨_, y, _, ws2, a2, rfl, s4.trans s5, Same.free (s1.trans s4) ny, wy, ⟨ws', a', st, po, len, hy.1⟩, hy.2.1, ?_, hy.2.2⟩
        rw [hy.1.1, wtL_len, len]
      · rintro σ H3 ⟨v4, x, v6, ws', a', rfl, s4, nx, wx, st, po, len, bi⟩
        exact ⟨_, rfl, kk x H3 ws' a' (s1.trans s4) nx wx ⟨st, po, len, bi⟩⟩
end
end Dl

namespace Dl
open PySem PySem.Spec PyProof.Rows L2
theorem pg_tupK {X : Cx} {K : PySem.W.Frag} {es : List Expr} {k : Nat} {pos : Pos} {t : TGs} (n : Nat) (hK : X.K = K) (hc : X.calm = true) (h : PGs X es t)
    (hn : (assignEach es X.env).length = n := by rfl) (hst : (assignEach es X.env).findIdx? (·.1) = none := by rfl) : PG X (.Tuple es k pos) (gTup K n t) := by
  subst hK
  exact pg_tup hc h hn hst
/-- the factors of one record: a weight, how often -/
def fac (ws : List Nat) (a : Nat) (r : Rc) : List (Nat × Nat) := (r.lot.zip r.sold).map (fun ic => (ws.getD ic.1 0, ic.2)) ++ [(a, r.gone)]
def pw (l : List (Nat × Nat)) : Nat := (l.map fun xc => xc.1 ^ xc.2).prod
def cn (l : List (Nat × Nat)) : Nat := (l.map fun xc => xc.2).sum
def chTop (ws : List Nat) (a : Nat) (rs : List Rc) : Nat := (rs.map fun r => pw (fac ws a r)).prod
def chBot (ws : List Nat) (a : Nat) (rs : List Rc) : Nat := (rs.map fun r => tot ws a r.lot ^ cn (fac ws a r)).prod
def chCn (ws : List Nat) (a : Nat) (rs : List Rc) : Nat := (rs.map fun r => cn (fac ws a r)).sum
theorem pw_snoc (l : List (Nat × Nat)) (x : Nat × Nat) : pw (l ++ [x]) = pw l * x.1 ^ x.2 := by
  unfold pw
  rw [List.map_append, List.prod_append_nat]
  simp
theorem cn_snoc (l : List (Nat × Nat)) (x : Nat × Nat) : cn (l ++ [x]) = cn l + x.2 := by
  unfold cn
  rw [List.map_append, List.sum_append]
  simp
theorem chTop_snoc (ws : List Nat) (a : Nat) (rs : List Rc) (r : Rc) : chTop ws a (rs ++ [r]) = chTop ws a rs * pw (fac ws a r) := by
  unfold chTop
  rw [List.map_append, List.prod_append_nat]
  simp
theorem chBot_snoc (ws : List Nat) (a : Nat) (rs : List Rc) (r : Rc) : chBot ws a (rs ++ [r]) = chBot ws a rs * tot ws a r.lot ^ cn (fac ws a r) := by
  unfold chBot
  rw [List.map_append, List.prod_append_nat]
  simp
theorem chCn_snoc (ws : List Nat) (a : Nat) (rs : List Rc) (r : Rc) : chCn ws a (rs ++ [r]) = chCn ws a rs + cn (fac ws a r) := by
  unfold chCn
  rw [List.map_append, List.sum_append]
  simp
theorem sum_zip_snd {lot sold : List Nat} (h : sold.length = lot.length) : ((lot.zip sold).map fun p => p.2).sum = sold.sum := by
  induction lot generalizing sold with
  | nil => rw [List.length_eq_zero_iff.mp h]; rfl
  | cons x l ih =>
    cases sold with
    | nil => cases h
    | cons y s =>
      rw [List.zip_cons_cons, List.map_cons, List.sum_cons, ih (by simpa using h), List.sum_cons]
theorem cn_fac {n : Nat} {r : Rc} (ok : RcOk n r) (ws : List Nat) (a : Nat) : cn (fac ws a r) = nOf r := by
  unfold fac
  rw [cn_snoc]
  unfold cn nOf
  rw [List.map_map]
  have := sum_zip_snd ok.len
  show (List.map (fun p : Nat × Nat => p.2) (r.lot.zip r.sold)).sum + r.gone = _
  rw [this]
theorem chCn_le {n : Nat} {rs : List Rc} (ok : ∀ r ∈ rs, RcOk n r) (ws : List Nat) (a : Nat) : chCn ws a rs = (rs.map nOf).sum := by
  unfold chCn
  congr 1
  exact List.map_congr_left fun r hr => cn_fac (ok r hr) ws a
theorem tot_pow_pos {T c : Nat} (h : 1 ≤ T) : 0 < T ^ c := Nat.pow_pos h
theorem chBot_pos {ws : List Nat} {a : Nat} (ha : 1 ≤ a) (rs : List Rc) : 0 < chBot ws a rs := by
  refine list_snoc_ind (Pr := fun rs => 0 < chBot ws a rs) Nat.zero_lt_one (fun rs r ih => ?_) rs
  rw [chBot_snoc]
  exact Nat.mul_pos ih (tot_pow_pos (tot_pos ha))
/-- what the loops keep: t over b is the product so far -/
structure Mul (M top bot c : Nat) (t b : Int) : Prop where
  b0 : 0 < b
  eq : t * (bot : Nat) = (top : Nat) * b
  lt : t.natAbs ≤ M ^ c
  lb : b.natAbs ≤ M ^ c
/-- a share in smaller numbers -/
structure Shr (M T x : Nat) (t b : Int) : Prop where
  b0 : 0 < b
  eq : t * (T : Nat) = (x : Nat) * b
  lt : t.natAbs ≤ M
  lb : b.natAbs ≤ M
theorem Mul.step {M top bot c T x : Nat} {t b t2 b2 : Int} (h : Mul M top bot c t b) (q : Shr M T x t2 b2) : Mul M (top * x) (bot * T) (c + 1) (t * t2) (b * b2) := by
  obtain ⟨h1, h2, h3, h4⟩ := h
  obtain ⟨q1, q2, q3, q4⟩ := q
  refine ⟨Int.mul_pos h1 q1, ?_, ?_, ?_⟩
  · rw [Int.natCast_mul, Int.natCast_mul]
    grind
  · rw [Int.natAbs_mul, Nat.pow_succ]
    exact Nat.mul_le_mul h3 q3
  · rw [Int.natAbs_mul, Nat.pow_succ]
    exact Nat.mul_le_mul h4 q4
def FacAt (R : Addr) (M T : Nat) (H : Hp) (e : Addr) (xc : Nat × Nat) : Prop := ∃ s t b, H e = some (.tup [.ref s, .int xc.2]) ∧ RatAt R H s t b ∧ Shr M T xc.1 t b
theorem FacAt.same {R : Addr} {M T : Nat} {H H' : Hp} {e : Addr} {xc : Nat × Nat} (s : Same H H') (h : FacAt R M T H e xc) : FacAt R M T H' e xc := let ⟨c, t, b, e1, e2, q⟩ := h; ⟨c, t, b, s _ _ e1, e2.same s, q⟩
theorem FacAt.lst {R : Addr} {M T : Nat} {H H2 : Hp} {e D : Addr} {xs : List V} {o : HO} {xc : Nat × Nat} (s : Same H H2) (hD : H2 D = some (.lst xs)) (h : FacAt R M T H e xc) : FacAt R M T (upd H2 D o) e xc := by
  obtain ⟨c, t, b, e1, ⟨dx, e2⟩, q⟩ := h
  refine ⟨c, t, b, ?_, ⟨dx, ?_⟩, q⟩
  · rw [upd_ne (fun z => by subst z; rw [s _ _ e1] at hD; cases hD)]
    exact s _ _ e1
  · rw [upd_ne (fun z => by subst z; rw [s _ _ e2] at hD; cases hD)]
    exact s _ _ e2
/-- a comprehension over zip of two tuples of one length -/
theorem lc_zipT {K : PySem.W.Frag} {a b : Addr} {xs ys : List V} {g : TG} {tt : TT} {te : TE} {vs : List Nat} {σ : L2.St} {H1 : Hp} {D : Addr} {Qd : Hp → Prop} (hl : xs.length = ys.length) (Pv : Nat → Hp → Prop) (h0 : Pv 0 (upd H1 D (.lst []))) (hq : ∀ i H, i ≤ xs.length → Pv i H → SqT K H a xs ∧ SqT K H b ys)
    (hs : ∀ i x y T H, xs[i]? = some x → ys[i]? = some y → Pv i H → H T = none → g (.ref T) (wipe σ vs) (upd H T (.tup [x, y])) fun σ2 H2 => wipe σ2 vs = wipe σ vs ∧ tt σ2 H2 fun b H3 =>
      if b = true then te σ2 H3 fun y H4 => ∃ acc, H4 D = some (.lst acc) ∧ acc.length < sizeLine ∧ Pv (i + 1) (upd H4 D (.lst (acc ++ [y]))) else Pv (i + 1) H3) (hd : ∀ H, Pv xs.length H → Qd H) :
    ∃ W : Nat → Nat → Hp → Prop, (∃ m, W 0 m (upd H1 D (.lst []))) ∧ ∀ i m H, W i m H →
      ((RZ.ItzT K a b).stop i H ∧ Qd H) ∨ ((RZ.ItzT K a b).go i H ∧ ∃ Nx : Hp → Prop, (∀ H', Nx H' → ∃ m', m' < m ∧ W (i + 1) m' H') ∧ ∀ x H', (RZ.ItzT K a b).yld i H x H' → g x (wipe σ vs) H' fun σ2 H2 => wipe σ2 vs = wipe σ vs ∧ tt σ2 H2 fun b H3 =>
        if b = true then te σ2 H3 fun y H4 => ∃ acc, H4 D = some (.lst acc) ∧ acc.length < sizeLine ∧ Nx (upd H4 D (.lst (acc ++ [y]))) else Nx H3) := by
  refine ⟨fun i m H => m = xs.length - i ∧ i ≤ xs.length ∧ Pv i H, ⟨xs.length, by simp, Nat.zero_le _, h0⟩, ?_⟩
  rintro i m H ⟨rfl, hi, p⟩
  obtain ⟨qx, qy⟩ := hq i H hi p
  by_cases hlt : i < xs.length
  · have hx : xs[i]? = some xs[i] := List.getElem?_eq_getElem hlt
    have hlt2 : i < ys.length := by omega
    have hy : ys[i]? = some ys[i] := List.getElem?_eq_getElem hlt2
    refine .inr ⟨⟨xs, ys, _, _, qx, qy, hx, hy⟩, Pv (i + 1), fun H' p' => ⟨xs.length - (i + 1), by omega, rfl, hlt, p'⟩, fun v H' y => ?_⟩
    obtain ⟨T, x', y', rfl, hT, rfl, f1, f2⟩ := y
    exact hs i x' y' T H (f1 xs qx) (f2 ys qy) p hT
  · have e : i = xs.length := by omega
    subst e
    exact .inl ⟨⟨xs, ys, qx, qy, Or.inl (Nat.le_refl _)⟩, hd H p⟩
def spLik (R W S : Addr) : Sp := fun vs H Q _ => ∃ (p q : Addr) (ws : List Nat) (a : Nat) (rs : List Rc), vs = [.ref p, .ref q] ∧ WtdAt W H p ws a ∧ BookAt S H q ws.length rs ∧ 1 ≤ a ∧ ws.length ≤ 4 ∧ rs.length ≤ 4 ∧ (∀ r ∈ rs, RcOk ws.length r) ∧ (rs.map nOf).sum ≤ 24 ∧ (∀ r ∈ rs, tot ws a r.lot < 2 ^ 10000) ∧
  NewR R H Q (fun t b => t * (chBot ws a rs : Nat) = (chTop ws a rs : Nat) * b ∧ Cp t ∧ Cp b)
/-- the bound on a share's numbers -/
theorem lik_bound : ∃ M : Nat, M < 2 ^ 40001 ∧ 1 ≤ M ∧ ∀ T, T < 2 ^ 10000 → 1 ≤ T → (∀ n, n ≤ 4 → T ^ n ≤ M) ∧ T ≤ M := by
  refine ⟨2 ^ 40000, Nat.pow_lt_pow_right (by decide) (by decide), Nat.pow_pos (by decide), fun T hT h1 => ?_⟩
  have h : ∀ n, n ≤ 4 → T ^ n ≤ 2 ^ 40000 := fun n hn => by
    have h2 : T ^ n ≤ T ^ 4 := Nat.pow_le_pow_right h1 hn
    have h3 : T ^ 4 ≤ (2 ^ 10000) ^ 4 := Nat.pow_le_pow_left (Nat.le_of_lt hT) 4
    rw [← Nat.pow_mul] at h3
    exact Nat.le_trans h2 h3
  refine ⟨h, ?_⟩
  have := h 1 (by decide)
  rw [Nat.pow_one] at this
  exact this
theorem lows_shr {M T x : Nat} {t b : Int} (hb : 0 < b) (hT : T ≤ M) (hx : x ≤ T) (lo : Lows (x : Nat) (T : Nat) t b) : Shr M T x t b := by
  obtain ⟨e, h1, h2⟩ := lo
  rw [Int.natAbs_natCast] at h1 h2
  exact ⟨hb, e, by omega, by omega⟩
theorem getD_le_tot {ws : List Nat} {a : Nat} {lot : List Nat} {i : Nat} (h : i ∈ lot) : ws.getD i 0 ≤ tot ws a lot := by
  unfold tot
  have : ws.getD i 0 ≤ (lot.map fun i => ws.getD i 0).sum := by
    induction lot with
    | nil => cases h
    | cons x l ih =>
      rw [List.map_cons, List.sum_cons]
      rcases List.mem_cons.mp h with rfl | h
      · omega
      · have := ih h
        omega
  omega
section
variable {P : Program} {w : World} {K : PySem.W.Frag} {mg : Str → Option Value} {base : Heap} {R W S D : Addr}
abbrev s_likelihood : Stmt := tops 24
abbrev N_likelihood : List Str := ["rule", "book", "top", "bottom", "lot", "sold", "gone", "shares", "thing", "count", "factors", "share", "_"]
theorem sc_likelihood : FnScope N_likelihood ["rule", "book"] (defScope s_likelihood) := ⟨rfl, rfl, rfl, by decide +kernel, rfl, by decide +kernel, by decide +kernel⟩
-- slots: 0 rule, 1 book, 2 top, 3 bottom, 4 lot, 5 sold, 6 gone, 7 shares (cell), 8 thing, 9 count, 10 factors, 11 share, 12 _
theorem ok_likelihood {f fi : Addr} {fd fdi : FuncData} {st : Stmt} (T : Tx K mg R W S) (IB : ItB K mg S fi fdi st) (IT : ItT st) (hR2 : HR2 P w K mg base R) (hW_shares : HasM P w K mg base 44 W "shares" ["self", "lot"] (spShares R W)) (hW_away : HasM P w K mg base 45 W "away" ["self", "lot"] (spAway R W))
    (h_check_alike : Has P w K mg base 1 "check_alike" ["rule", "book"] [] (spAlike W S)) (F : Fun K "likelihood" "likelihood" s_likelihood f fd) :
    FnOk P w K mg base CX0 46 f fd ["rule", "book"] (spLik R W S) := by
  refine F.ok sc_likelihood (fun vs H Q E h => ?_) (fun cdv A outer s H vs Q E hr h => ?_)
  · obtain ⟨p, q, ws, a, rs, rfl, _⟩ := h
    rfl
  · obtain ⟨p, qb, ws, a, rs, rfl, wp, bq, ha, n4, rs4, ok, few, big, kk⟩ := h
    obtain ⟨M, hM, hM1, hMT⟩ := lik_bound
    obtain ⟨dx, lw, hp, hw⟩ := id wp
    obtain ⟨dy, lb, hq, as, hlb, ea⟩ := id bq
    refine ⟨_, (pss_cons (ps_expr (pe_callH h_check_alike (hr.mono (by decide)) rfl (pa_cons (pv 0) (pa_cons (pv 1) pa_nil))))
    (pss_cons (ps_set (i := 2) sc_likelihood.nd rfl (Or.inl rfl) pe_int)
    (pss_cons (ps_set (i := 3) sc_likelihood.nd rfl (Or.inl rfl) pe_int)
    (pss_cons (ps_for PassesOwn.never rfl (pi_own IB IT (hr.mono (by decide)) (pv 1)) (pg_tup rfl (pgs_cons (pg_name (i := 4) sc_likelihood.nd rfl (Or.inl rfl)) (pgs_cons (pg_name (i := 5) sc_likelihood.nd rfl (Or.inl rfl)) (pgs_cons (pg_name (i := 6) sc_likelihood.nd rfl (Or.inl rfl)) pgs_nil))))
    (pss_cons (ps_set (i := 7) sc_likelihood.nd rfl (Or.inr rfl) (pe_methH (pv 0) T.clW hW_shares (hr.mono (by decide)) (pa_cons (pv 4) pa_nil)))
    (pss_cons (ps_setLc (i := 10) (own := [("thing", 8), ("count", 9)]) rfl sc_likelihood.nd rfl rfl (sw_true rfl rfl rfl (by decide +kernel)) (RZ.pi_zipA (by rfl) T.zip (pa_cons (pv 4) (pa_cons (pv 5) pa_nil))) (blkOk_by (N := N_likelihood) (sc := defScope s_likelihood) (by decide +kernel)) (fun _ _ _ _ _ => (pg_tupK (K := K) 2 rfl rfl (pgs_cons (pg_name (i := 8) sc_likelihood.nd rfl (Or.inl rfl) (.inr rfl)) (pgs_cons (pg_name (i := 9) sc_likelihood.nd rfl (Or.inl rfl) (.inr rfl)) pgs_nil)))) (fun _ _ _ _ _ => pts_nil) (fun _ _ _ _ _ => (pe_tup (pa_cons (pe_ix (ix_listK (K := K) rfl) (pv 7) (pv 8) (fun _ _ => rfl)) (pa_cons (pv 9) pa_nil)))))
    (pss_cons (ps_expr (pe_bm PySem.F.plainAttrs_list PySem.F.slot_list_append PySem.F.type_list_append mt_append (pv 10) (pa_cons (pe_tup (pa_cons (pe_methH (pv 0) T.clW hW_away (hr.mono (by decide)) (pa_cons (pv 4) pa_nil)) (pa_cons (pv 6) pa_nil))) pa_nil)))
    (pss_one (ps_for PassesOwn.never rfl (pi_list (pv 10)) (pg_tup rfl (pgs_cons (pg_name (i := 11) sc_likelihood.nd rfl (Or.inl rfl)) (pgs_cons (pg_name (i := 9) sc_likelihood.nd rfl (Or.inl rfl)) pgs_nil)))
    (pss_one (ps_for PassesOwn.never rfl (pi_range1 rfl T.range (pa_cons (pv 9) pa_nil)) (pg_name (i := 12) sc_likelihood.nd rfl (Or.inl rfl))
    (pss_cons (ps_aug (i := 2) sc_likelihood.nd rfl (Or.inl rfl) (pe_fld (pv 11) rfl) ip_mulX)
    (pss_one (ps_aug (i := 3) sc_likelihood.nd rfl (Or.inl rfl) (pe_fld (pv 11) rfl) ip_mulX)))))))))))
    (pss_one (ps_ret (pe_makeH hR2 (hr.mono (by decide)) rfl (pa_cons (pv 2) (pa_cons (pv 3) pa_nil))))))))), ?_⟩
    refine ⟨_, rfl, _, rfl, p, qb, ws, a, rs, rfl, wp, bq, ?_⟩
    refine ⟨_, rfl, qb, dy, _, lb, _, rfl, hq, sf_records _ _, hlb, ?_⟩
    refine for_list (K := K) (a := lb) (xs := as.map V.ref) (fun j σ H' => ∃ t b v4 v5 v6 v7 v8 v9 v10 v11 v12, σ = [some (.ref p), some (.ref qb), some (.int t), some (.int b), v4, v5, v6, v7, v8, v9, v10, v11, v12] ∧ Same H H' ∧ Mul M (chTop ws a (rs.take j)) (chBot ws a (rs.take j)) (chCn ws a (rs.take j)) t b)
      ⟨1, 1, _, _, _, _, _, _, _, _, _, rfl, Same.refl _, ⟨by decide, rfl, Nat.le_refl _, Nat.le_refl _⟩⟩ (fun j σ H4 _ ⟨_, _, _, _, _, _, _, _, _, _, _, _, q, _⟩ => SqL.of (q _ _ hlb)) ?_ ?_
    · rintro j x σ H1 hx ⟨t, b, v4, v5, v6, v7, v8, v9, v10, v11, v12, rfl, s1, mu⟩
      obtain ⟨c, r, rfl, hc, hr', pl, ps, e1, e2, e3⟩ := ea.get hx
      have hrm := List.mem_of_getElem? hr'
      have okr := ok r hrm
      have bigr := big r hrm
      have hT := tot_pos (ws := ws) (lot := r.lot) ha
      obtain ⟨hTn, hTM⟩ := hMT _ bigr hT
      have lot4 : r.lot.length ≤ 4 := Nat.le_trans okr.asc.len n4
      refine ⟨c, _, rfl, SqT.of (s1 _ _ e1), rfl, _, _, rfl, _, _, rfl, _, _, rfl, rfl, ?_⟩
      refine ⟨_, rfl, p, dx, _, rfl, s1 _ _ hp, wf_no _ _ _ (by decide +kernel) (by decide +kernel) (by decide +kernel), _, rfl, p, pl, ws, a, r.lot, rfl, wp.same s1, ha, by omega, s1 _ _ e2, okr.asc, fun DS H2 s2 nDS ⟨ss, hDS, es⟩ => ?_⟩
      have s12 := s1.trans s2
      refine ⟨_, rfl, _, rfl, pl, ps, vN r.lot, vN r.sold, rfl, .inr ⟨SqT.of (s12 _ _ e2), SqT.of (s12 _ _ e3), fun DF hDF => ?_⟩⟩
      refine lc_zipT (K := K) (by rw [vN_len, vN_len, okr.len]) (fun i H' => Same H2 H' ∧ LstOf (FacAt R M (tot ws a r.lot)) H' DF (((r.lot.zip r.sold).take i).map fun ic => (ws.getD ic.1 0, ic.2))) ⟨Same.new hDF, [], upd_same, Each.nil⟩ (fun i H' _ ⟨q, _⟩ => ⟨SqT.of ((s12.trans q) _ _ e2), SqT.of ((s12.trans q) _ _ e3)⟩) ?_ ?_
      · rintro i x y T' H' hx hy ⟨s3, fs, hDF', ef⟩ hT'
        obtain ⟨z, hz, rfl⟩ := vN_get hx
        obtain ⟨cnt, hcnt, rfl⟩ := vN_get hy
        have hzm := List.mem_of_getElem? hz
        have hzl := okr.asc.lt z hzm
        refine ⟨T', _, rfl, SqT.of upd_same, rfl, _, _, rfl, _, _, rfl, rfl, rfl, tyes_if ?_⟩
        have s3' := Same.then_new (o := .tup [.int z, .int cnt]) s3 hT'
        have hzs : z < ss.length := by rw [es.1, shL_len]; exact hzl
        have hDS' := s3' _ _ hDS
        obtain ⟨t2, b2, rat2, hb2, lo2⟩ := es.2 z ss[z] _ (List.getElem?_eq_getElem hzs) (shL_get hzl)
        rw [if_pos hzm] at lo2
        refine ⟨_, rfl, _, rfl, DS, _, _, .ref ss[z], rfl, rfl, SqL.of hDS', atI_nat (by rw [List.getElem?_map, List.getElem?_eq_getElem hzs]; rfl), ?_⟩
        refine ⟨_, rfl, (by show 2 ≤ sizeLine; rw [sizeLine_eq]; decide), fun e he => ?_⟩
        have hDF2 : upd (upd H' T' (.tup [.int z, .int cnt])) e (.tup [.ref ss[z], .int cnt]) DF = some (.lst (fs.map V.ref)) := by
          rw [upd_ne (ne_of_none ((Same.new hT') _ _ hDF') he)]
          exact (Same.new hT') _ _ hDF'
        have s3e := Same.then_new (o := .tup [.ref ss[z], .int cnt]) s3' he
        refine ⟨_, hDF2, ?_, Same.then_set s3e hDF, fs ++ [e], ?_, ?_⟩
        · rw [List.length_map, ef.1, List.length_map, List.length_take, sizeLine_eq]
          have : (r.lot.zip r.sold).length ≤ 4 := by rw [List.length_zip]; omega
          omega
        · rw [upd_same, List.map_append]
          rfl
        · rw [take_snoc (zip_get hz hcnt), List.map_append]
          have ss2 : Same H' (upd (upd H' T' (.tup [.int z, .int cnt])) e (.tup [.ref ss[z], .int cnt])) := Same.then_new (Same.new hT') he
          refine (ef.imp fun _ _ h => FacAt.lst ss2 hDF2 h).snoc (FacAt.lst (Same.refl _) hDF2 ⟨ss[z], t2, b2, upd_same, rat2.same s3e, lows_shr hb2 hTM (getD_le_tot hzm) lo2⟩)
      · rintro H3 ⟨s3, fs, hDF3, ef⟩
        have etk : (r.lot.zip r.sold).take (vN r.lot).length = r.lot.zip r.sold := List.take_of_length_le (by rw [List.length_zip, vN_len]; exact Nat.min_le_left _ _)
        rw [etk] at ef
        have s13 := s12.trans s3
        refine ⟨_, rfl, .inl ⟨rfl, _, SqL.of hDF3⟩, ?_⟩
        refine ⟨_, rfl, p, dx, _, rfl, s13 _ _ hp, wf_no _ _ _ (by decide +kernel) (by decide +kernel) (by decide +kernel), _, rfl, p, pl, ws, a, r.lot, rfl, wp.same s13, ha, by omega, bigr, s13 _ _ e2, okr.asc, fun y H4 t3 b3 s4 ny ry hb3 aw => ?_⟩
        refine ⟨_, rfl, (by show 2 ≤ sizeLine; rw [sizeLine_eq]; decide), fun e he => ?_⟩
        have s4e := Same.then_new (o := .tup [.ref y, .int r.gone]) s4 he
        have hDF4 := s4e _ _ hDF3
        have flen : fs.length ≤ 4 := by rw [ef.1, List.length_map, List.length_zip]; omega
        refine ⟨DF, _, _, rfl, rfl, hDF4, by rw [List.length_map, sizeLine_eq]; omega, ?_⟩
        have s14 := s13.trans s4e
        have nDF := Same.free (s1.trans s2) hDF
        have ef2 : Each (FacAt R M (tot ws a r.lot)) (upd (upd H4 e (.tup [.ref y, .int r.gone])) DF (.lst (fs.map V.ref ++ [.ref e]))) (fs ++ [e]) (fac ws a r) := by
          unfold fac
          refine (ef.imp fun _ _ h => FacAt.lst s4e hDF4 h).snoc (FacAt.lst (Same.refl _) hDF4 ⟨y, t3, b3, upd_same, ry.same (Same.new he), ?_⟩)
          obtain ⟨w1, w2, w3⟩ := aw
          exact ⟨hb3, w1, Nat.le_trans w3 (hTn _ n4), Nat.le_trans w2 (hTn _ n4)⟩
        have s15 : Same H (upd (upd H4 e (.tup [.ref y, .int r.gone])) DF (.lst (fs.map V.ref ++ [.ref e]))) := Same.then_set s14 nDF
        have hDF5 : upd (upd H4 e (.tup [.ref y, .int r.gone])) DF (.lst (fs.map V.ref ++ [.ref e])) DF = some (.lst ((fs ++ [e]).map V.ref)) := by rw [upd_same, List.map_append]; rfl
        generalize upd (upd H4 e (.tup [.ref y, .int r.gone])) DF (.lst (fs.map V.ref ++ [.ref e])) = H5 at ef2 s15 hDF5
        generalize fs ++ [e] = fs2 at ef2 hDF5
        have hcn : chCn ws a (rs.take j) + cn (fac ws a r) ≤ 24 := by
          rw [← chCn_snoc, ← take_snoc hr', chCn_le (fun r h => ok r (List.mem_of_mem_take h))]
          exact Nat.le_trans (sum_take_le nOf rs (j + 1)) few
        have hcap : ∀ (z : Int) (c : Nat), c ≤ 24 → z.natAbs ≤ M ^ c → Cp z := fun z c hc h => pw_cap (k := 40001) hM hc (by decide) h
        refine ⟨_, rfl, DF, rfl, ⟨_, SqL.of hDF5⟩, ?_⟩
        refine for_list (K := K) (a := DF) (xs := fs2.map V.ref) (fun i σ H' => ∃ t b v8 v9 v11 v12, σ = [some (.ref p), some (.ref qb), some (.int t), some (.int b), some (.ref pl), some (.ref ps), some (.int r.gone), some (.ref DS), v8, v9, some (.ref DF), v11, v12] ∧ H' = H5 ∧
            Mul M (chTop ws a (rs.take j) * pw ((fac ws a r).take i)) (chBot ws a (rs.take j) * tot ws a r.lot ^ cn ((fac ws a r).take i)) (chCn ws a (rs.take j) + cn ((fac ws a r).take i)) t b)
          ⟨t, b, _, _, _, _, rfl, rfl, by
            rw [List.take_zero]
            show Mul M (_ * 1) (_ * _ ^ 0) (_ + 0) t b
            rw [Nat.mul_one, Nat.pow_zero, Nat.mul_one]
            exact mu⟩ (fun i σ H' _ ⟨_, _, _, _, _, _, _, q, _⟩ => by rw [q]; exact SqL.of hDF5) ?_ ?_
        · rintro i x σ H' hx ⟨t, b, v8, v9, v11, v12, rfl, rfl, mu2⟩
          obtain ⟨e2, xc, rfl, hfe, hxc, sa, t2, b2, he2, ⟨d2, hsa⟩, shr⟩ := ef2.get hx
          refine ⟨e2, _, rfl, SqT.of he2, rfl, _, _, rfl, _, _, rfl, rfl, ?_⟩
          have hci : cn ((fac ws a r).take i) + xc.2 ≤ cn (fac ws a r) := by
            rw [← cn_snoc, ← take_snoc hxc]
            unfold cn
            have key : ∀ (l : List (Nat × Nat)) (j : Nat), ((l.take j).map fun xc => xc.2).sum ≤ (l.map fun xc => xc.2).sum := by
              intro l
              induction l with
              | nil => intro j; simp
              | cons y l ih =>
                intro j
                cases j with
                | zero => simp
                | succ j =>
                  rw [List.take_succ_cons, List.map_cons, List.sum_cons, List.map_cons, List.sum_cons]
                  have := ih j
                  omega
            exact key _ _
          refine ⟨_, rfl, xc.2, rfl, by omega, by omega, ?_⟩
          rw [Int.toNat_natCast]
          refine for_range (lo := 0) (n := xc.2) (fun k σ H2 => ∃ t b v12, σ = [some (.ref p), some (.ref qb), some (.int t), some (.int b), some (.ref pl), some (.ref ps), some (.int r.gone), some (.ref DS), v8, some (.int xc.2), some (.ref DF), some (.ref sa), v12] ∧ H2 = H' ∧
              Mul M (chTop ws a (rs.take j) * pw ((fac ws a r).take i) * xc.1 ^ k) (chBot ws a (rs.take j) * tot ws a r.lot ^ cn ((fac ws a r).take i) * tot ws a r.lot ^ k) (chCn ws a (rs.take j) + cn ((fac ws a r).take i) + k) t b)
            ⟨t, b, _, rfl, rfl, by
              rw [Nat.pow_zero, Nat.pow_zero, Nat.mul_one, Nat.mul_one]
              exact mu2⟩ ?_ ?_
          · rintro k σ H2 hk ⟨t, b, v12, rfl, rfl, mu3⟩
            have ck : chCn ws a (rs.take j) + cn ((fac ws a r).take i) + k ≤ 24 := by omega
            refine ⟨_, rfl, _, rfl, sa, R, d2, _, _, rfl, hsa, T.clR, T.rTop, rf_top _ _, ⟨_, _, rfl, rfl, mul_cap (hcap _ _ ck mu3.lt) (hcap _ 1 (by decide) (by rw [Nat.pow_one]; exact shr.lt)), ?_⟩⟩
            refine ⟨_, rfl, _, rfl, sa, R, d2, _, _, rfl, hsa, T.clR, T.rBot, rf_bottom _ _, ⟨_, _, rfl, rfl, mul_cap (hcap _ _ ck mu3.lb) (hcap _ 1 (by decide) (by rw [Nat.pow_one]; exact shr.lb)), ?_⟩⟩
            refine ⟨t * t2, b * b2, _, rfl, rfl, ?_⟩
            rw [Nat.pow_succ, Nat.pow_succ, ← Nat.mul_assoc, ← Nat.mul_assoc]
            exact mu3.step shr
          · rintro σ H2 ⟨t, b, v12, rfl, rfl, mu3⟩
            refine ⟨t, b, _, _, _, _, rfl, rfl, ?_⟩
            rw [take_snoc hxc, pw_snoc, cn_snoc, Nat.pow_add, ← Nat.mul_assoc, ← Nat.mul_assoc, ← Nat.add_assoc]
            exact mu3
        · rintro σ H' ⟨t, b, v8, v9, v11, v12, rfl, rfl, mu2⟩
          rw [List.length_map, ef2.1, List.take_length] at mu2
          refine ⟨t, b, _, _, _, _, _, _, _, _, _, rfl, s15, ?_⟩
          rw [take_snoc hr', chTop_snoc, chBot_snoc, chCn_snoc]
          exact mu2
    · rintro σ H1 ⟨t, b, v4, v5, v6, v7, v8, v9, v10, v11, v12, rfl, s1, mu⟩
      rw [List.length_map, ea.1, List.take_length] at mu
      have hB := chBot_pos (ws := ws) ha rs
      refine ⟨_, rfl, _, rfl, rat_made mu.b0 fun x H2 t' b' s2 nx rx hb' lo => ?_⟩
      have hc : chCn ws a rs ≤ 24 := by rw [chCn_le ok]; exact few
      obtain ⟨e, f1, f2⟩ := lo
      refine kk x H2 t' b' (s1.trans s2) (Same.free s1 nx) rx hb' ⟨?_, pw_cap (k := 40001) hM hc (by decide) (Nat.le_trans f1 mu.lt), pw_cap (k := 40001) hM hc (by decide) (Nat.le_trans f2 mu.lb)⟩
      apply Int.eq_of_mul_eq_mul_right (Int.ne_of_gt mu.b0)
      have e2 := mu.eq
      grind
end
end Dl

namespace Dl
open PySem PySem.Spec PyProof.Rows L2
/-- a new list of numbers -/
def NewL (H : Hp) (Q : VK) (P : List Nat → Prop) : Prop := ∀ (x : Addr) (H' : Hp) (ds : List Nat), Same H H' → H x = none → H' x = some (.lst (vN ds)) → P ds → Q (.ref x) H'
def spCell (K : PySem.W.Frag) : Sp := fun vs H Q _ => ∃ (l : Addr) (zs : List Int) (i : Nat), vs = [.ref l, .int i] ∧ SqL K H l (zs.map V.int) ∧ (∀ z ∈ zs, Cp z) ∧ ∀ z, Cp z → Q (.int z) H
/-- numbers below their sizes -/
def Below (ss ds : List Nat) : Prop := ds.length = ss.length ∧ ∀ (i d s : Nat), ds[i]? = some d → ss[i]? = some s → d < s
def spDraws : Sp := fun vs H Q _ => ∃ (l : Addr) (c : Int) (ss : List Nat), vs = [.int c, .ref l] ∧ H l = some (.lst (vN ss)) ∧ (∀ s ∈ ss, 0 < s) ∧ ss.length ≤ 100 ∧ Cp c ∧ NewL H Q (Below ss)
def spRow : Sp := fun vs H Q _ => ∃ (c : Int) (n : Nat), vs = [.int c, .int n] ∧ n ≤ 10 ∧ Cp c ∧ NewL H Q (fun ds => ds.length = n ∧ ∀ d ∈ ds, d + 1 < 10 ^ 18)
def spUps : Sp := fun vs H Q _ => ∃ (l : Addr) (ds : List Nat), vs = [.ref l] ∧ H l = some (.lst (vN ds)) ∧ ds.length ≤ 100 ∧ NewL H Q (fun es => es = ds.map fun d => 1 + d)
def lotF (bits many : Nat) : List Nat := (List.range many).filter fun i => decide (bits / 2 ^ i % 2 = 1)
def spLot : Sp := fun vs H Q _ => ∃ (b n : Nat), vs = [.int b, .int n] ∧ n ≤ 4 ∧ ∀ (x : Addr) (H' : Hp), Same H H' → H x = none → H' x = some (.tup (vN (lotF b n))) → Q (.ref x) H'
theorem emod_nat {i s : Int} (h : 0 < s) : ∃ d : Nat, i % s = (d : Int) ∧ (d : Int) < s := ⟨(i % s).toNat, by have := Int.emod_nonneg i (show s ≠ 0 by omega); omega, by have := Int.emod_nonneg i (show s ≠ 0 by omega); have := Int.emod_lt_of_pos i h; omega⟩
theorem vN_snoc (l : List Nat) (d : Nat) : vN (l ++ [d]) = vN l ++ [V.int (d : Nat)] := by
  show List.map _ _ = _
  rw [List.map_append]
  rfl
theorem vN_mod (l : List Nat) (z : Int) {s : Nat} (h : 0 < s) : vN l ++ [V.int (z % (s : Int))] = vN (l ++ [(z % (s : Int)).toNat]) := by
  rw [vN_snoc, Int.toNat_of_nonneg (Int.emod_nonneg z (by omega))]
theorem mod_lt (z : Int) {s : Nat} (h : 0 < s) : (z % (s : Int)).toNat < s := by
  have := Int.emod_nonneg z (show (s : Int) ≠ 0 by omega)
  have := Int.emod_lt_of_pos z (show 0 < (s : Int) by omega)
  omega
theorem Below.snoc {ss ds : List Nat} {d s : Nat} (h : Below ss ds) (hd : d < s) : Below (ss ++ [s]) (ds ++ [d]) := by
  refine ⟨by rw [List.length_append, List.length_append, h.1]; rfl, fun i x y e1 e2 => ?_⟩
  by_cases hi : i < ds.length
  · rw [List.getElem?_append_left hi] at e1
    rw [List.getElem?_append_left (by rw [← h.1]; exact hi)] at e2
    exact h.2 i x y e1 e2
  · rw [List.getElem?_append_right (by omega)] at e1
    rw [List.getElem?_append_right (by rw [← h.1]; omega), ← h.1] at e2
    cases hj : i - ds.length with
    | zero =>
      rw [hj] at e1 e2
      cases Option.some.inj e1
      cases Option.some.inj e2
      exact hd
    | succ j =>
      rw [hj] at e1
      simp at e1
theorem lotF_asc (b n : Nat) : Asc n (lotF b n) := by
  refine ⟨?_, fun i hi => List.mem_range.mp (List.mem_filter.mp hi).1⟩
  exact List.Pairwise.filter _ List.pairwise_lt_range
section
variable {P : Program} {w : World} {K : PySem.W.Frag} {mg : Str → Option Value} {base : Heap} {R W S D : Addr}
abbrev s__law_cell : Stmt := tops 33
abbrev N__law_cell : List Str := ["_law_script", "_law_place"]
theorem sc__law_cell : FnScope N__law_cell ["_law_script", "_law_place"] (defScope s__law_cell) := ⟨rfl, rfl, rfl, by decide +kernel, rfl, by decide +kernel, by decide +kernel⟩
-- slots: 0 _law_script, 1 _law_place
abbrev s__law_draws : Stmt := tops 34
abbrev N__law_draws : List Str := ["_law_cell_here", "_law_sizes", "_law_size", "_law_left", "_law_found", "_law_k", "_law_low", "_law_high"]
theorem sc__law_draws : FnScope N__law_draws ["_law_cell_here", "_law_sizes"] (defScope s__law_draws) := ⟨rfl, rfl, rfl, by decide +kernel, rfl, by decide +kernel, by decide +kernel⟩
-- slots: 0 _law_cell_here, 1 _law_sizes, 2 _law_size, 3 _law_left, 4 _law_found, 5 _law_k, 6 _law_low, 7 _law_high
abbrev s__law_row : Stmt := tops 35
abbrev N__law_row : List Str := ["_law_cell_here", "_law_count", "_law_k", "_law_drawn", "_law_bound", "_law_value"]
theorem sc__law_row : FnScope N__law_row ["_law_cell_here", "_law_count"] (defScope s__law_row) := ⟨rfl, rfl, rfl, by decide +kernel, rfl, by decide +kernel, by decide +kernel⟩
-- slots: 0 _law_cell_here, 1 _law_count, 2 _law_k, 3 _law_drawn, 4 _law_bound (cell), 5 _law_value
abbrev s__law_ups : Stmt := tops 36
abbrev N__law_ups : List Str := ["_law_row_here", "_law_number"]
theorem sc__law_ups : FnScope N__law_ups ["_law_row_here"] (defScope s__law_ups) := ⟨rfl, rfl, rfl, by decide +kernel, rfl, by decide +kernel, by decide +kernel⟩
-- slots: 0 _law_row_here, 1 _law_number
abbrev s__law_lot : Stmt := tops 37
abbrev N__law_lot : List Str := ["_law_bits", "_law_many", "_law_found", "_law_left", "_law_thing"]
theorem sc__law_lot : FnScope N__law_lot ["_law_bits", "_law_many"] (defScope s__law_lot) := ⟨rfl, rfl, rfl, by decide +kernel, rfl, by decide +kernel, by decide +kernel⟩
-- slots: 0 _law_bits, 1 _law_many, 2 _law_found, 3 _law_left, 4 _law_thing
theorem ok_law_cell {f : Addr} {fd : FuncData} (T : Tx K mg R W S) (F : Fun K "_law_cell" "_law_cell" s__law_cell f fd) : FnOk P w K mg base CX0 1 f fd ["_law_script", "_law_place"] (spCell K) := by
  refine F.ok sc__law_cell (fun vs H Q E h => ?_) (fun cdv A outer s H vs Q E hr h => ?_)
  · obtain ⟨l, zs, i, rfl, _⟩ := h
    rfl
  · obtain ⟨l, zs, i, rfl, hl, hz, k⟩ := h
    refine ⟨_, (pss_cons (ps_if (pt_cmpR op_lt (pv 1) (pe_callB call_len (by rfl) T.len (by decide +kernel) (pa_cons (pv 0) pa_nil)) (nomark _)) (pss_one (ps_ret (pe_callTy call_int1 (by rfl) T.int (by decide +kernel) (pa_cons (pe_ix ix_list (pv 0) (pv 1) (fun _ _ => rfl)) pa_nil)))) pss_nil)
    (pss_one (ps_ret pe_int))), ?_⟩
    refine ⟨_, rfl, _, rfl, _, zs.length, rfl, .inl ⟨_, hl, by rw [List.length_map]⟩, _, _, rfl, rfl, _, rfl, ?_⟩
    by_cases h : i < zs.length
    · refine ifY (by omega) ?_
      refine ⟨_, rfl, _, rfl, l, _, _, .int zs[i], rfl, rfl, hl, atI_nat (by rw [List.getElem?_map, List.getElem?_eq_getElem h]; rfl), .inl ⟨_, rfl, ?_⟩⟩
      exact k _ (hz _ (List.getElem_mem h))
    · refine ifN (by omega) ?_
      exact k 0 (Nat.pow_pos (by decide))
theorem ok_law_draws {f : Addr} {fd : FuncData} (T : Tx K mg R W S) (ar : Ar P base) (F : Fun K "_law_draws" "_law_draws" s__law_draws f fd) : FnOk P w K mg base CX0 33 f fd ["_law_cell_here", "_law_sizes"] spDraws := by
  refine F.ok sc__law_draws (fun vs H Q E h => ?_) (fun cdv A outer s H vs Q E hr h => ?_)
  · obtain ⟨l, c, ss, rfl, _⟩ := h
    rfl
  · obtain ⟨l, c, ss, rfl, hl, hpos, h100, hc, k⟩ := h
    refine ⟨_, (pss_cons (ps_if (pt_cmpR op_eq (pv 0) pe_int (nomark _)) (pss_one (ps_ret (pe_lc (own := [("_law_size", 2)]) rfl sc__law_draws.nd (pi_list (pv 1)) (blkOk_by (N := N__law_draws) (sc := defScope s__law_draws) (by decide +kernel)) (fun _ _ _ _ _ => (pg_name (i := 2) sc__law_draws.nd rfl (Or.inl rfl) (.inr rfl))) (fun _ _ _ _ _ => pts_nil) (fun _ _ _ _ _ => pe_int)))) pss_nil)
    (pss_cons (ps_if (pt_cmpR op_ge (pv 0) (pe_op op_pow pe_int pe_int) (nomark _)) (pss_cons (ps_set (i := 3) sc__law_draws.nd rfl (Or.inl rfl) (pe_op op_sub (pv 0) (pe_op op_pow pe_int pe_int)))
    (pss_cons (ps_set (i := 4) sc__law_draws.nd rfl (Or.inl rfl) (pe_lst pa_nil))
    (pss_cons (ps_for PassesOwn.never rfl (pi_list (pv 1)) (pg_name (i := 2) sc__law_draws.nd rfl (Or.inl rfl))
    (pss_cons (ps_expr (pe_bm PySem.F.plainAttrs_list PySem.F.slot_list_append PySem.F.type_list_append mt_append (pv 4) (pa_cons (pe_op op_mod (pe_callTy call_int1 (by rfl) T.int (by decide +kernel) (pa_cons (pv 3) pa_nil)) (pv 2)) pa_nil)))
    (pss_one (ps_set (i := 3) sc__law_draws.nd rfl (Or.inl rfl) (pe_op (op_fdivA ar (hr.mono (by decide))) (pv 3) (pv 2))))))
    (pss_one (ps_ret (pv 4)))))) pss_nil)
    (pss_cons (ps_set (i := 4) sc__law_draws.nd rfl (Or.inl rfl) (pe_lst pa_nil))
    (pss_cons (ps_for PassesOwn.never rfl (pi_range1 rfl T.range (pa_cons (pe_callB call_len (by rfl) T.len (by decide +kernel) (pa_cons (pv 1) pa_nil)) pa_nil)) (pg_name (i := 5) sc__law_draws.nd rfl (Or.inl rfl))
    (pss_cons (ps_set (i := 6) sc__law_draws.nd rfl (Or.inl rfl) (pe_op op_mod (pe_callTy call_int1 (by rfl) T.int (by decide +kernel) (pa_cons (pe_op op_add (pe_op op_mulX (pv 0) pe_int) (pe_op op_mulX (pe_op op_add (pv 5) pe_int) pe_int)) pa_nil)) pe_int))
    (pss_cons (ps_set (i := 6) sc__law_draws.nd rfl (Or.inl rfl) (pe_op op_mod (pe_callTy call_int1 (by rfl) T.int (by decide +kernel) (pa_cons (pe_op op_add (pe_op op_mulX (pv 6) pe_int) (pe_op op_mulX (pe_op op_add (pv 5) pe_int) pe_int)) pa_nil)) pe_int))
    (pss_cons (ps_set (i := 7) sc__law_draws.nd rfl (Or.inl rfl) (pe_op op_mod (pe_callTy call_int1 (by rfl) T.int (by decide +kernel) (pa_cons (pe_op op_add (pe_op op_mulX (pv 0) pe_int) (pe_op op_mulX (pe_op op_add (pv 5) pe_int) pe_int)) pa_nil)) pe_int))
    (pss_cons (ps_set (i := 7) sc__law_draws.nd rfl (Or.inl rfl) (pe_op op_mod (pe_callTy call_int1 (by rfl) T.int (by decide +kernel) (pa_cons (pe_op op_add (pe_op op_mulX (pv 7) pe_int) (pv 6)) pa_nil)) pe_int))
    (pss_one (ps_expr (pe_bm PySem.F.plainAttrs_list PySem.F.slot_list_append PySem.F.type_list_append mt_append (pv 4) (pa_cons (pe_op op_mod (pe_callTy call_int1 (by rfl) T.int (by decide +kernel) (pa_cons (pe_op op_add (pe_op op_mulX (pv 7) pe_int) (pv 6)) pa_nil)) (pe_ix ix_list (pv 1) (pv 5) (fun _ _ => rfl))) pa_nil)))))))))
    (pss_one (ps_ret (pv 4))))))), ?_⟩
    refine ⟨_, rfl, rfl, _, rfl, ?_⟩
    by_cases h0 : c = 0
    · refine ifY (by rw [h0]) ?_
      refine ⟨_, rfl, l, rfl, ⟨_, SqL.of hl⟩, fun D hD => ?_⟩
      refine lc_list (K := K) (a := l) (xs := vN ss) (fun i H1 => Same H H1 ∧ H1 D = some (.lst (vN (List.replicate i 0)))) ⟨Same.new hD, upd_same⟩ (fun i H1 _ q => SqL.of (q.1 _ _ hl)) ?_ ?_
      · rintro i x H1 hx ⟨s1, hD'⟩
        have hi : i < (vN ss).length := (List.getElem?_eq_some_iff.mp hx).1
        rw [vN_len] at hi
        refine ⟨rfl, tyes_if ?_⟩
        refine ⟨_, hD', ?_, Same.then_set s1 hD, ?_⟩
        · rw [vN_len, List.length_replicate, sizeLine_eq]
          omega
        · rw [upd_same, List.replicate_succ', vN_snoc]
          rfl
      · rintro H1 ⟨s1, hD'⟩
        refine k D H1 _ s1 hD hD' ⟨by rw [List.length_replicate, vN_len], fun i d s e1 e2 => ?_⟩
        have := (List.mem_replicate.mp (List.mem_of_getElem? e1)).2
        rw [this]
        exact hpos s (List.mem_of_getElem? e2)
    refine ifN (int_ne h0) ?_
    refine ⟨_, rfl, _, _, rfl, rfl, ⟨by decide, by decide, by decide⟩, _, _, rfl, rfl, _, rfl, ?_⟩
    by_cases h1 : (10 : Int) ^ (18 : Int).toNat ≤ c
    · refine ifY h1 ?_
      refine ⟨_, rfl, _, _, rfl, rfl, ⟨by decide, by decide, by decide⟩, _, _, rfl, rfl, ?_⟩
      refine ⟨(by show 0 ≤ sizeLine; exact Nat.zero_le _), fun D hD => ?_⟩
      refine ⟨_, rfl, l, rfl, ⟨_, SqL.of (Same.new hD _ _ hl)⟩, ?_⟩
      refine for_list (K := K) (a := l) (xs := vN ss) (fun i σ H' => ∃ v2 z ds v5 v6 v7, σ = [some (.int c), some (.ref l), v2, some (.int z), some (.ref D), v5, v6, v7] ∧ Same H H' ∧ H' D = some (.lst (vN ds)) ∧ Below (ss.take i) ds)
        ⟨_, _, [], _, _, _, rfl, Same.new hD, upd_same, rfl, fun i d s e => by simp at e⟩ (fun i σ H' _ ⟨_, _, _, _, _, _, _, q, _⟩ => SqL.of (q _ _ hl)) ?_ ?_
      · rintro i x σ H' hx ⟨v2, z, ds, v5, v6, v7, rfl, s1, hD', be⟩
        obtain ⟨sz, hs, rfl⟩ := vN_get hx
        have hp := hpos sz (List.mem_of_getElem? hs)
        have hi : i < ss.length := (List.getElem?_eq_some_iff.mp hs).1
        refine ⟨_, rfl, .inl ⟨rfl, _, SqL.of hD'⟩, _, rfl, .inl ⟨_, rfl, _, rfl, _, _, rfl, rfl, by omega, ?_⟩⟩
        refine ⟨D, _, _, rfl, rfl, hD', ?_, ?_⟩
        · rw [vN_len, be.1, List.length_take, sizeLine_eq]
          omega
        · refine ⟨_, rfl, _, rfl, _, _, rfl, rfl, by omega, ?_⟩
          refine ⟨_, _, ds ++ [(z % (sz : Int)).toNat], _, _, _, rfl, Same.then_set s1 hD, ?_, ?_⟩
          · rw [upd_same]
            exact congrArg (fun l => some (HO.lst l)) (vN_mod ds z hp)
          · rw [take_snoc hs]
            exact be.snoc (mod_lt z hp)
      · rintro σ H' ⟨v2, z, ds, v5, v6, v7, rfl, s1, hD', be⟩
        rw [vN_len, List.take_length] at be
        exact ⟨_, rfl, k D H' ds s1 hD hD' be⟩
    · refine ifN h1 ?_
      refine ⟨(by show 0 ≤ sizeLine; exact Nat.zero_le _), fun D hD => ?_⟩
      have s0 : Same H (upd H D (.lst [])) := Same.new hD
      refine ⟨_, rfl, _, ss.length, rfl, .inl ⟨_, SqL.of (s0 _ _ hl), (vN_len ss).symm⟩, ss.length, rfl, by omega, by omega, ?_⟩
      rw [Int.toNat_natCast]
      refine for_range (lo := 0) (n := ss.length) (fun i σ H' => ∃ v2 v3 ds v5 v6 v7, σ = [some (.int c), some (.ref l), v2, v3, some (.ref D), v5, v6, v7] ∧ Same H H' ∧ H' D = some (.lst (vN ds)) ∧ Below (ss.take i) ds)
        ⟨_, _, [], _, _, _, rfl, s0, upd_same, rfl, fun i d s e => by simp at e⟩ ?_ ?_
      · rintro i σ H' hi ⟨v2, v3, ds, v5, v6, v7, rfl, s1, hD', be⟩
        rw [Int.zero_add]
        have cs : ∀ z : Int, z.natAbs < 2 ^ 64 → Cp z := fun z h => bd_le h (by decide)
        have ci : Cp ((i : Int) + 1) := cs _ (by omega)
        have small : ∀ (z m : Int), 0 < m → m.natAbs < 2 ^ 63 → (z % m).natAbs < 2 ^ 64 := fun z m h1 h2 => by
          have := Int.emod_nonneg z (show m ≠ 0 by omega)
          have := Int.emod_lt_of_pos z h1
          omega
        refine ⟨_, rfl, _, _, rfl, rfl, mul_cap hc (cs _ (by decide)), _, rfl, _, _, rfl, rfl, _, _, rfl, rfl, mul_cap ci (cs _ (by decide)), _, _, rfl, rfl, .inl ⟨_, rfl, _, _, rfl, rfl, (by show (0 : Int) < _; decide), ?_⟩⟩
        refine ⟨_, rfl, _, _, rfl, rfl, mul_cap (cs _ (small _ _ (by decide) (by decide))) (cs _ (by decide)), _, rfl, _, _, rfl, rfl, _, _, rfl, rfl, mul_cap ci (cs _ (by decide)), _, _, rfl, rfl, .inl ⟨_, rfl, _, _, rfl, rfl, (by show (0 : Int) < _; decide), ?_⟩⟩
        refine ⟨_, rfl, _, _, rfl, rfl, mul_cap hc (cs _ (by decide)), _, rfl, _, _, rfl, rfl, _, _, rfl, rfl, mul_cap ci (cs _ (by decide)), _, _, rfl, rfl, .inl ⟨_, rfl, _, _, rfl, rfl, (by show (0 : Int) < _; decide), ?_⟩⟩
        refine ⟨_, rfl, _, _, rfl, rfl, mul_cap (cs _ (small _ _ (by decide) (by decide))) (cs _ (by decide)), _, rfl, _, _, rfl, rfl, .inl ⟨_, rfl, _, _, rfl, rfl, (by show (0 : Int) < _; decide), ?_⟩⟩
        refine ⟨_, rfl, .inl ⟨rfl, _, SqL.of hD'⟩, ?_⟩
        have hsz := List.getElem?_eq_getElem hi
        have hp := hpos ss[i] (List.getElem_mem hi)
        refine ⟨_, rfl, _, _, rfl, rfl, mul_cap (cs _ (small _ _ (by decide) (by decide))) (cs _ (by decide)), _, rfl, _, _, rfl, rfl, .inl ⟨_, rfl, _, rfl, _, rfl, l, _, _, _, rfl, rfl, SqL.of (s1 _ _ hl), atI_nat (vN_at hsz), _, _, rfl, rfl, by omega, ?_⟩⟩
        refine ⟨D, _, _, rfl, rfl, hD', ?_, ?_⟩
        · rw [vN_len, be.1, List.length_take, sizeLine_eq]
          omega
        · refine ⟨_, _, ds ++ [Int.toNat ((((c * 16807 + ((i : Int) + 1) * 742938285) % 2147483563 * 39373 + ((c * 48271 + ((i : Int) + 1) * 69621) % 2147483647 * 40692 + ((i : Int) + 1) * 1103515245) % 2147483399) % 2147483587 * 2147483648 + ((c * 48271 + ((i : Int) + 1) * 69621) % 2147483647 * 40692 + ((i : Int) + 1) * 1103515245) % 2147483399) % ((ss[i] : Nat) : Int))], _, _, _, rfl, Same.then_set s1 hD, ?_, ?_⟩
          · rw [upd_same]
            exact congrArg (fun l => some (HO.lst l)) (vN_mod ds _ hp)
          · rw [take_snoc hsz]
            exact be.snoc (mod_lt _ hp)
      · rintro σ H' ⟨v2, v3, ds, v5, v6, v7, rfl, s1, hD', be⟩
        rw [List.take_length] at be
        exact ⟨_, rfl, k D H' ds s1 hD hD' be⟩
theorem ok_law_ups {f : Addr} {fd : FuncData} (T : Tx K mg R W S) (F : Fun K "_law_ups" "_law_ups" s__law_ups f fd) : FnOk P w K mg base CX0 1 f fd ["_law_row_here"] spUps := by
  refine F.ok sc__law_ups (fun vs H Q E h => ?_) (fun cdv A outer s H vs Q E hr h => ?_)
  · obtain ⟨l, ds, rfl, _⟩ := h
    rfl
  · obtain ⟨l, ds, rfl, hl, h100, k⟩ := h
    refine ⟨_, (pss_one (ps_ret (pe_lc (own := [("_law_number", 1)]) rfl sc__law_ups.nd (pi_list (pv 0)) (blkOk_by (N := N__law_ups) (sc := defScope s__law_ups) (by decide +kernel)) (fun _ _ _ _ _ => (pg_name (i := 1) sc__law_ups.nd rfl (Or.inl rfl) (.inr rfl))) (fun _ _ _ _ _ => pts_nil) (fun _ _ _ _ _ => (pe_op op_add pe_int (pv 1)))))), ?_⟩
    refine ⟨_, rfl, l, rfl, ⟨_, SqL.of hl⟩, fun D hD => ?_⟩
    refine lc_list (K := K) (a := l) (xs := vN ds) (fun i H1 => Same H H1 ∧ H1 D = some (.lst (vN ((ds.take i).map fun d => 1 + d)))) ⟨Same.new hD, upd_same⟩ (fun i H1 _ q => SqL.of (q.1 _ _ hl)) ?_ ?_
    · rintro i x H1 hx ⟨s1, hD'⟩
      obtain ⟨z, hz, rfl⟩ := vN_get hx
      refine ⟨rfl, tyes_if ?_⟩
      refine ⟨_, rfl, _, _, rfl, rfl, _, hD', ?_, Same.then_set s1 hD, ?_⟩
      · rw [vN_len, List.length_map, List.length_take, sizeLine_eq]
        omega
      · rw [upd_same, take_snoc hz, List.map_append]
        show some (HO.lst (vN _ ++ [V.int (1 + (z : Int))])) = some (HO.lst (vN (_ ++ [1 + z])))
        rw [vN_snoc, Int.natCast_add]
        rfl
    · rintro H1 ⟨s1, hD'⟩
      rw [vN_len, List.take_length] at hD'
      exact k D H1 _ s1 hD hD' rfl
theorem ok_law_row {f : Addr} {fd : FuncData} (T : Tx K mg R W S) (h_law_draws : Has P w K mg base 33 "_law_draws" ["_law_cell_here", "_law_sizes"] [] spDraws) (F : Fun K "_law_row" "_law_row" s__law_row f fd) : FnOk P w K mg base CX0 34 f fd ["_law_cell_here", "_law_count"] spRow := by
  refine F.ok sc__law_row (fun vs H Q E h => ?_) (fun cdv A outer s H vs Q E hr h => ?_)
  · obtain ⟨c, n, rfl, _⟩ := h
    rfl
  · obtain ⟨c, n, rfl, hn, hc, k⟩ := h
    refine ⟨_, (pss_cons (ps_set (i := 3) sc__law_row.nd rfl (Or.inl rfl) (pe_callH h_law_draws (hr.mono (by decide)) rfl (pa_cons (pv 0) (pa_cons (pe_op op_cat (pe_lst (pa_cons pe_int pa_nil)) (pe_lc (own := [("_law_k", 2)]) rfl sc__law_row.nd (pi_range1 rfl T.range (pa_cons (pv 1) pa_nil)) (blkOk_by (N := N__law_row) (sc := defScope s__law_row) (by decide +kernel)) (fun _ _ _ _ _ => (pg_name (i := 2) sc__law_row.nd rfl (Or.inl rfl) (.inr rfl))) (fun _ _ _ _ _ => pts_nil) (fun _ _ _ _ _ => (pe_op op_pow pe_int pe_int)))) pa_nil))))
    (pss_cons (ps_set (i := 4) sc__law_row.nd rfl (Or.inr rfl) (pe_ix ix_list (pe_lst (pa_cons pe_int (pa_cons pe_int (pa_cons (pe_op op_pow pe_int pe_int) (pa_cons (pe_op op_sub (pe_op op_pow pe_int pe_int) pe_int) pa_nil))))) (pe_ix ix_list (pv 3) pe_int (fun _ _ => rfl)) (fun _ _ => rfl)))
    (pss_one (ps_ret (pe_lc (own := [("_law_value", 5)]) rfl sc__law_row.nd (pi_list (pe_slice sl_list (pv 3) (po_some pe_int) po_none)) (blkOk_by (N := N__law_row) (sc := defScope s__law_row) (by decide +kernel)) (fun _ _ _ _ _ => (pg_name (i := 5) sc__law_row.nd rfl (Or.inl rfl) (.inr rfl))) (fun _ _ _ _ _ => pts_nil) (fun _ _ _ _ _ => (pe_op op_mod (pe_callTy call_int1 (by rfl) T.int (by decide +kernel) (pa_cons (pv 5) pa_nil)) (pv 4)))))))), ?_⟩
    refine ⟨_, rfl, (by show 1 ≤ sizeLine; rw [sizeLine_eq]; decide), fun A0 hA0 => ?_⟩
    refine ⟨_, rfl, n, rfl, by omega, by omega, fun B0 hB0 => ?_⟩
    rw [Int.toNat_natCast]
    have sA : Same H (upd H A0 (.lst [.int 4])) := Same.new hA0
    refine lc_range (lo := 0) (n := n) (fun i H1 => Same (upd H A0 (.lst [.int 4])) H1 ∧ H1 B0 = some (.lst (vN (List.replicate i (10 ^ 18))))) ⟨Same.new hB0, upd_same⟩ ?_ ?_
    · rintro i H1 hi ⟨s1, hB1⟩
      refine ⟨rfl, tyes_if ?_⟩
      refine ⟨_, _, rfl, rfl, ⟨by decide, by decide, by decide⟩, _, hB1, ?_, Same.then_set s1 hB0, ?_⟩
      · rw [vN_len, List.length_replicate, sizeLine_eq]
        omega
      · rw [upd_same, List.replicate_succ', vN_snoc]
        rfl
    rintro H1 ⟨s1, hB1⟩
    have hA1 : H1 A0 = some (.lst [.int 4]) := s1 _ _ upd_same
    refine ⟨A0, B0, _, _, rfl, rfl, hA1, hB1, by rw [vN_len, List.length_replicate, sizeLine_eq]; show 1 + n ≤ _; omega, fun C0 hC0 => ?_⟩
    have s2 : Same H (upd H1 C0 (.lst ([.int 4] ++ vN (List.replicate n (10 ^ 18))))) := Same.then_new (sA.trans s1) hC0
    refine ⟨C0, c, 4 :: List.replicate n (10 ^ 18), rfl, upd_same, fun z hz => ?_, by rw [List.length_cons, List.length_replicate]; omega, hc, fun X H2 ds s3 nX hX be => ?_⟩
    · rcases List.mem_cons.mp hz with rfl | hz
      · decide
      · rw [(List.mem_replicate.mp hz).2]
        decide
    obtain ⟨blen, bel⟩ := be
    rw [List.length_cons, List.length_replicate] at blen
    obtain ⟨d0, dr, rfl⟩ : ∃ d0 dr, ds = d0 :: dr := by
      cases ds with
      | nil => cases blen
      | cons d0 dr => exact ⟨d0, dr, rfl⟩
    have hd0 := bel 0 d0 4 rfl rfl
    have s23 := s2.trans s3
    refine ⟨_, _, rfl, rfl, ⟨by decide, by decide, by decide⟩, _, _, rfl, rfl, ⟨by decide, by decide, by decide⟩, _, _, rfl, rfl, (by show 4 ≤ sizeLine; rw [sizeLine_eq]; decide), fun Y hY => ?_⟩
    have s4 : Same H2 (upd H2 Y (.lst (vN [4, 30, 10 ^ 9, 10 ^ 18 - 1]))) := Same.new hY
    obtain ⟨b, hb, hb0, hb1⟩ : ∃ b, [4, 30, 10 ^ 9, 10 ^ 18 - 1][d0]? = some b ∧ 0 < b ∧ b < 10 ^ 18 := by
      rcases d0 with _ | _ | _ | _ | d0
      · exact ⟨_, rfl, by decide, by decide⟩
      · exact ⟨_, rfl, by decide, by decide⟩
      · exact ⟨_, rfl, by decide, by decide⟩
      · exact ⟨_, rfl, by decide, by decide⟩
      · omega
    refine ⟨_, rfl, X, _, _, _, rfl, rfl, SqL.of (s4 _ _ hX), (atI_nat (j := 0) (vN_at (l := d0 :: dr) (i := 0) (n := d0) rfl)), Y, _, _, .int (b : Nat), rfl, rfl, SqL.of upd_same, atI_nat (vN_at hb), ?_⟩
    refine ⟨_, rfl, 1, rfl, X, _, rfl, SqL.of (s4 _ _ hX), fun Z hZ => ?_⟩
    have ecut : cutV (vN (d0 :: dr)) (some 1) none = vN dr := by
      unfold cutV
      rw [HT.sIx_none, show (1 : Int) = ((1 : Nat) : Int) from rfl, HT.sIx_nat, vN_len, List.length_cons]
      have e1 : min 1 (dr.length + 1) = 1 := by omega
      rw [e1]
      show List.take (dr.length + 1 - 1) (vN dr) = vN dr
      rw [Nat.add_sub_cancel]
      exact List.take_of_length_le (by rw [vN_len]; exact Nat.le_refl _)
    rw [ecut]
    simp only [List.length_cons] at blen
    refine ⟨Z, rfl, ⟨_, SqL.of upd_same⟩, fun V0 hV0 => ?_⟩
    have nV0 : H2 V0 = none := Same.free (Same.then_new (Same.new hY) hZ) hV0
    refine lc_list (K := K) (a := Z) (xs := vN dr) (fun i H5 => Same H2 H5 ∧ H5 Z = some (.lst (vN dr)) ∧ H5 V0 = some (.lst (vN ((dr.take i).map fun (d : Nat) => ((d : Int) % (b : Int)).toNat)))) ⟨Same.then_new (Same.then_new (Same.new hY) hZ) hV0, by rw [upd_ne (ne_of_none upd_same hV0)]; exact upd_same, upd_same⟩ (fun i H5 _ q => SqL.of q.2.1) ?_ ?_
    · rintro i x H5 hx ⟨s6, hZ5, hV5⟩
      have nVZ : Z ≠ V0 := ne_of_none upd_same hV0
      obtain ⟨z, hz, rfl⟩ := vN_get hx
      have hi : i < dr.length := (List.getElem?_eq_some_iff.mp hz).1
      refine ⟨rfl, tyes_if ?_⟩
      refine ⟨_, rfl, .inl ⟨_, rfl, _, rfl, _, _, rfl, rfl, by omega, _, hV5, ?_, Same.then_set s6 nV0, by rw [upd_ne nVZ]; exact hZ5, ?_⟩⟩
      · rw [vN_len, List.length_map, List.length_take, sizeLine_eq]
        omega
      · rw [upd_same, take_snoc hz, List.map_append]
        exact congrArg (fun l => some (HO.lst l)) (vN_mod _ _ hb0)
    · rintro H5 ⟨s6, hZ5, hV5⟩
      rw [vN_len, List.take_length] at hV5
      refine k V0 H5 _ (s23.trans s6) (Same.free s23 nV0) hV5 ⟨by rw [List.length_map]; omega, fun d hd => ?_⟩
      obtain ⟨z, hz, rfl⟩ := List.mem_map.mp hd
      have := mod_lt z hb0
      omega
theorem ok_law_lot {f : Addr} {fd : FuncData} (T : Tx K mg R W S) (ar : Ar P base) (F : Fun K "_law_lot" "_law_lot" s__law_lot f fd) : FnOk P w K mg base CX0 33 f fd ["_law_bits", "_law_many"] spLot := by
  refine F.ok sc__law_lot (fun vs H Q E h => ?_) (fun cdv A outer s H vs Q E hr h => ?_)
  · obtain ⟨b, n, rfl, _⟩ := h
    rfl
  · obtain ⟨b, n, rfl, hn, k⟩ := h
    refine ⟨_, (pss_cons (ps_set (i := 2) sc__law_lot.nd rfl (Or.inl rfl) (pe_lst pa_nil))
    (pss_cons (ps_set (i := 3) sc__law_lot.nd rfl (Or.inl rfl) (pe_callTy call_int1 (by rfl) T.int (by decide +kernel) (pa_cons (pv 0) pa_nil)))
    (pss_cons (ps_for PassesOwn.never rfl (pi_range1 rfl T.range (pa_cons (pv 1) pa_nil)) (pg_name (i := 4) sc__law_lot.nd rfl (Or.inl rfl))
    (pss_cons (ps_if (pt_cmpR op_eq (pe_op op_mod (pv 3) pe_int) pe_int (nomark _)) (pss_one (ps_expr (pe_bm PySem.F.plainAttrs_list PySem.F.slot_list_append PySem.F.type_list_append mt_append (pv 2) (pa_cons (pv 4) pa_nil)))) pss_nil)
    (pss_one (ps_set (i := 3) sc__law_lot.nd rfl (Or.inl rfl) (pe_op (op_fdivA ar (hr.mono (by decide))) (pv 3) pe_int)))))
    (pss_one (ps_ret (pe_callTy call_tuple_of (by rfl) T.tuple (by decide +kernel) (pa_cons (pv 2) pa_nil))))))), ?_⟩
    refine ⟨(by show 0 ≤ sizeLine; exact Nat.zero_le _), fun D hD => ?_⟩
    refine ⟨_, rfl, .inl ⟨_, rfl, ?_⟩⟩
    refine ⟨_, rfl, n, rfl, by omega, by omega, ?_⟩
    rw [Int.toNat_natCast]
    refine for_range (lo := 0) (n := n) (fun i σ H' => ∃ v4, σ = [some (.int b), some (.int n), some (.ref D), some (.int (b / 2 ^ i : Nat)), v4] ∧ Same H H' ∧ H' D = some (.lst (vN (lotF b i)))) ⟨none, by rw [Nat.pow_zero, Nat.div_one]; rfl, Same.new hD, upd_same⟩ ?_ ?_
    · rintro i σ H' hi ⟨v4, rfl, s1, hD'⟩
      rw [Int.zero_add]
      have ef : lotF b (i + 1) = lotF b i ++ (if b / 2 ^ i % 2 = 1 then [i] else []) := by
        unfold lotF
        rw [filter_succ]
        by_cases h : b / 2 ^ i % 2 = 1
        · rw [if_pos h, decide_eq_true h]; rfl
        · rw [if_neg h, decide_eq_false h]; rfl
      have ed : ((b / 2 ^ i : Nat) : Int) / 2 = ((b / 2 ^ (i + 1) : Nat) : Int) := by
        rw [Nat.pow_succ, ← Nat.div_div_eq_div_mul]
        omega
      refine ⟨_, rfl, _, _, rfl, rfl, (by show (0 : Int) < 2; decide), rfl, _, rfl, ?_⟩
      by_cases h : b / 2 ^ i % 2 = 1
      · refine ifY (by show V.int (((b / 2 ^ i : Nat) : Int) % 2) = V.int 1; congr 1; omega) ?_
        refine ⟨_, rfl, .inl ⟨rfl, _, SqL.of hD'⟩, _, rfl, D, _, _, rfl, rfl, hD', ?_, ?_⟩
        · rw [vN_len, sizeLine_eq]
          have := (lotF_asc b i).len
          omega
        · refine ⟨_, rfl, _, _, rfl, rfl, (by show (0 : Int) < 2; decide), some (.int i), ?_, Same.then_set s1 hD, ?_⟩
          · show [_, _, _, some (V.int (((b / 2 ^ i : Nat) : Int) / 2)), _] = _
            rw [ed]
          · rw [upd_same, ef, if_pos h, vN_snoc]
      · refine ifN (by show ¬ V.int (((b / 2 ^ i : Nat) : Int) % 2) = V.int 1; intro z; have := V.int.inj z; omega) ?_
        refine ⟨_, rfl, _, _, rfl, rfl, (by show (0 : Int) < 2; decide), some (.int i), ?_, s1, ?_⟩
        · show [_, _, _, some (V.int (((b / 2 ^ i : Nat) : Int) / 2)), _] = _
          rw [ed]
        · rw [ef, if_neg h, List.append_nil]
          exact hD'
    · rintro σ H' ⟨v4, rfl, s1, hD'⟩
      refine ⟨_, rfl, D, _, rfl, .inl ⟨SqL.of hD', fun x hx => ?_⟩⟩
      exact k x _ (Same.then_new s1 hx) (Same.free s1 hx) upd_same
end
end Dl

namespace Dl
open PySem PySem.Spec PyProof.Rows L2
theorem kII {K : PySem.W.Frag} : PySem.W.kitOne K (.type "int") (.type "int") = some true := kit_ty rfl
theorem kIB {K : PySem.W.Frag} : PySem.W.kitOne K (.type "int") (.type "bool") = some false := kit_ty rfl
theorem kTT {K : PySem.W.Frag} : PySem.W.kitOne K (.type "tuple") (.type "tuple") = some true := kit_ty rfl
def spIsInt : Sp := fun vs H Q _ => ∃ z : Int, vs = [.int z] ∧ Q (.bl true) H
def spSame (R : Addr) : Sp := fun vs H Q _ => ∃ (p : Addr) (t b : Int) (x y : Nat), vs = [.ref p, .int x, .int y] ∧ RatAt R H p t b ∧ 0 < b ∧ t * (y : Nat) = (x : Nat) * b ∧ Cp t ∧ Cp b ∧ Cp (x : Nat) ∧ Cp (y : Nat) ∧ Q (.bl true) H
def spSameLot (K : PySem.W.Frag) : Sp := fun vs H Q _ => ∃ (p q : Addr) (xs : List Nat), vs = [.ref p, .ref q] ∧ H p = some (.tup (vN xs)) ∧ (H q = some (.lst (vN xs)) ∨ H q = some (.tup (vN xs))) ∧ xs.length ≤ 1000 ∧ Q (.bl true) H
section
variable {P : Program} {w : World} {K : PySem.W.Frag} {mg : Str → Option Value} {base : Heap} {R W S D : Addr}
abbrev s__law_is_int : Stmt := tops 40
abbrev N__law_is_int : List Str := ["_law_x"]
theorem sc__law_is_int : FnScope N__law_is_int ["_law_x"] (defScope s__law_is_int) := ⟨rfl, rfl, rfl, by decide +kernel, rfl, by decide +kernel, by decide +kernel⟩
-- slots: 0 _law_x
abbrev s__law_same : Stmt := tops 41
abbrev N__law_same : List Str := ["_law_x", "_law_top", "_law_bottom"]
theorem sc__law_same : FnScope N__law_same ["_law_x", "_law_top", "_law_bottom"] (defScope s__law_same) := ⟨rfl, rfl, rfl, by decide +kernel, rfl, by decide +kernel, by decide +kernel⟩
-- slots: 0 _law_x, 1 _law_top, 2 _law_bottom
abbrev s__law_same_lot : Stmt := tops 42
abbrev N__law_same_lot : List Str := ["_law_x", "_law_due", "_law_k"]
theorem sc__law_same_lot : FnScope N__law_same_lot ["_law_x", "_law_due"] (defScope s__law_same_lot) := ⟨rfl, rfl, rfl, by decide +kernel, rfl, by decide +kernel, by decide +kernel⟩
-- slots: 0 _law_x, 1 _law_due, 2 _law_k
theorem ok_law_is_int {f : Addr} {fd : FuncData} (T : Tx K mg R W S) (F : Fun K "_law_is_int" "_law_is_int" s__law_is_int f fd) : FnOk P w K mg base CX0 1 f fd ["_law_x"] spIsInt := by
  refine F.ok sc__law_is_int (fun vs H Q E h => ?_) (fun cdv A outer s H vs Q E hr h => ?_)
  · obtain ⟨z, rfl, _⟩ := h
    rfl
  · obtain ⟨z, rfl, k⟩ := h
    refine ⟨_, (pss_one (ps_ret (pe_and (pe_callB call_isi (by rfl) T.isinstance (by decide +kernel) (pa_cons (pv 0) (pa_cons (pe_bltn (v := .ty "int") (by rfl) T.int (by decide +kernel) rfl) pa_nil))) (pe_one (pe_not (pe_callB call_isi (by rfl) T.isinstance (by decide +kernel) (pa_cons (pv 0) (pa_cons (pe_bltn (v := .ty "bool") (by rfl) T.bool (by decide +kernel) rfl) pa_nil)))))))), ?_⟩
    refine ⟨_, rfl, .int z, .ty "int", .type "int", .type "int", true, rfl, .ty _, .base (.int z), kII, true, rfl, iteT ?_⟩
    exact ⟨_, rfl, .int z, .ty "bool", .type "int", .type "bool", false, rfl, .ty _, .base (.int z), kIB, false, rfl, k⟩
theorem ok_law_same {f : Addr} {fd : FuncData} (T : Tx K mg R W S) (h_law_is_int : Has P w K mg base 1 "_law_is_int" ["_law_x"] [] spIsInt) (F : Fun K "_law_same" "_law_same" s__law_same f fd) : FnOk P w K mg base CX0 2 f fd ["_law_x", "_law_top", "_law_bottom"] (spSame R) := by
  refine F.ok sc__law_same (fun vs H Q E h => ?_) (fun cdv A outer s H vs Q E hr h => ?_)
  · obtain ⟨p, t, b, x, y, rfl, _⟩ := h
    rfl
  · obtain ⟨p, t, b, x, y, rfl, ⟨dx, hp⟩, hb, e, c1, c2, c3, c4, k⟩ := h
    refine ⟨_, (pss_cons (ps_if (pt_not (pt_val (pe_callB call_isi (by rfl) T.isinstance (by decide +kernel) (pa_cons (pv 0) (pa_cons (pe_glob (v := .ref R) rfl T.mgR rfl) pa_nil))))) (pss_one (ps_ret pe_bl)) pss_nil)
    (pss_cons (ps_if (PW.pt (pw_or (pt_not (pt_val (pe_callH h_law_is_int (hr.mono (by decide)) rfl (pa_cons (pe_fld (pv 0) rfl) pa_nil)))) (pw_or (pt_not (pt_val (pe_callH h_law_is_int (hr.mono (by decide)) rfl (pa_cons (pe_fld (pv 0) rfl) pa_nil)))) (pw_or1 (pt_cmpR op_lt (pe_fld (pv 0) rfl) pe_int (nomark _)))))) (pss_one (ps_ret pe_bl)) pss_nil)
    (pss_one (ps_ret (pe_cmpR op_eq (pe_op op_mulX (pe_fld (pv 0) rfl) (pv 2)) (pe_op op_mulX (pv 1) (pe_fld (pv 0) rfl)) (nomark _)))))), ?_⟩
    refine ⟨_, rfl, .ref p, .ref R, .ref R, .ref R, true, rfl, .own _, .base (T.tyR _ _ _ _ hp), T.kRR, true, rfl, iteF ?_⟩
    refine ⟨_, rfl, p, R, dx, _, _, rfl, hp, T.clR, T.rTop, rf_top _ _, t, rfl, true, rfl, iteF ?_⟩
    refine ⟨_, rfl, p, R, dx, _, _, rfl, hp, T.clR, T.rBot, rf_bottom _ _, b, rfl, true, rfl, iteF ?_⟩
    refine ⟨_, rfl, p, R, dx, _, _, rfl, hp, T.clR, T.rBot, rf_bottom _ _, _, _, rfl, rfl, _, rfl, ifN (by omega) ?_⟩
    refine ⟨_, rfl, p, R, dx, _, _, rfl, hp, T.clR, T.rTop, rf_top _ _, _, rfl, _, _, rfl, rfl, mul_cap c1 c4, _, rfl, _, rfl, p, R, dx, _, _, rfl, hp, T.clR, T.rBot, rf_bottom _ _, _, _, rfl, rfl, mul_cap c3 c2, rfl, ?_⟩
    have e2 : decide (V.int (t * (y : Nat)) = V.int ((x : Nat) * b)) = true := decide_eq_true (by rw [e])
    show Q (V.bl (decide (V.int (t * (y : Nat)) = V.int ((x : Nat) * b)))) H
    rw [e2]
    exact k
theorem ok_law_same_lot {f : Addr} {fd : FuncData} (T : Tx K mg R W S) (h_law_is_int : Has P w K mg base 1 "_law_is_int" ["_law_x"] [] spIsInt) (F : Fun K "_law_same_lot" "_law_same_lot" s__law_same_lot f fd) : FnOk P w K mg base CX0 2 f fd ["_law_x", "_law_due"] (spSameLot K) := by
  refine F.ok sc__law_same_lot (fun vs H Q E h => ?_) (fun cdv A outer s H vs Q E hr h => ?_)
  · obtain ⟨p, q, xs, rfl, _⟩ := h
    rfl
  · obtain ⟨p, q, xs, rfl, hp, hq, hl, k⟩ := h
    refine ⟨_, (pss_cons (ps_if (PW.pt (pw_or (pt_not (pt_val (pe_callB call_isi (by rfl) T.isinstance (by decide +kernel) (pa_cons (pv 0) (pa_cons (pe_bltn (v := .ty "tuple") (by rfl) T.tuple (by decide +kernel) rfl) pa_nil))))) (pw_or1 (pt_cmpR op_ne (pe_callB call_len (by rfl) T.len (by decide +kernel) (pa_cons (pv 0) pa_nil)) (pe_callB call_len (by rfl) T.len (by decide +kernel) (pa_cons (pv 1) pa_nil)) (nomark _))))) (pss_one (ps_ret pe_bl)) pss_nil)
    (pss_cons (ps_for PassesOwn.never rfl (pi_range1 rfl T.range (pa_cons (pe_callB call_len (by rfl) T.len (by decide +kernel) (pa_cons (pv 1) pa_nil)) pa_nil)) (pg_name (i := 2) sc__law_same_lot.nd rfl (Or.inl rfl))
    (pss_one (ps_if (PW.pt (pw_or (pt_not (pt_val (pe_callH h_law_is_int (hr.mono (by decide)) rfl (pa_cons (pe_ix ix_tup (pv 0) (pv 2) (fun _ _ => rfl)) pa_nil)))) (pw_or1 (pt_cmpR op_ne (pe_ix ix_tup (pv 0) (pv 2) (fun _ _ => rfl)) (pe_ix ix_seq (pv 1) (pv 2) (fun _ _ => rfl)) (nomark _))))) (pss_one (ps_ret pe_bl)) pss_nil)))
    (pss_one (ps_ret pe_bl)))), ?_⟩
    have lenq : LenV K (.ref q) H xs.length := by
      rcases hq with hq | hq
      · exact .inl ⟨_, SqL.of hq, (vN_len xs).symm⟩
      · exact .inr ⟨_, SqT.of hq, (vN_len xs).symm⟩
    refine ⟨_, rfl, .ref p, .ty "tuple", .type "tuple", .type "tuple", true, rfl, .ty _, .base (.tup hp), kTT, true, rfl, iteF ?_⟩
    refine ⟨_, rfl, _, xs.length, rfl, .inr ⟨_, SqT.of hp, (vN_len xs).symm⟩, _, rfl, _, xs.length, rfl, lenq, rfl, _, rfl, ?_⟩
    refine ifNN rfl ?_
    refine ⟨_, rfl, _, xs.length, rfl, lenq, xs.length, rfl, by omega, by omega, ?_⟩
    rw [Int.toNat_natCast]
    refine for_range (lo := 0) (n := xs.length) (fun i σ H' => ∃ v2, σ = [some (.ref p), some (.ref q), v2] ∧ H' = H) ⟨_, rfl, rfl⟩ ?_ ?_
    · rintro i σ H' hi ⟨v2, rfl, rfl⟩
      rw [Int.zero_add]
      have hx := vN_at (List.getElem?_eq_getElem hi)
      refine ⟨_, rfl, _, rfl, p, _, _, _, rfl, rfl, SqT.of hp, atI_nat hx, _, rfl, true, rfl, iteF ?_⟩
      refine ⟨_, rfl, _, rfl, p, _, _, _, rfl, rfl, SqT.of hp, atI_nat hx, _, rfl, _, rfl, ?_⟩
      have fin : ∀ σ', σ' = [some (V.ref p), some (.ref q), some (.int i)] → ∃ v2, σ' = [some (V.ref p), some (.ref q), v2] ∧ H' = H' := fun σ' e => ⟨_, e, rfl⟩
      rcases hq with hq | hq
      · refine .inl ⟨q, _, _, _, rfl, rfl, SqL.of hq, atI_nat hx, rfl, _, rfl, ?_⟩
        exact ifNN rfl (fin _ rfl)
      · refine .inr (.inl ⟨q, _, _, _, rfl, rfl, SqT.of hq, atI_nat hx, rfl, _, rfl, ?_⟩)
        exact ifNN rfl (fin _ rfl)
    · rintro σ H' ⟨v2, rfl, rfl⟩
      exact k
end
end Dl

namespace Dl
open PySem PySem.Spec PyProof.Rows L2
def spHolds (S : Addr) : Sp := fun vs H Q _ => ∃ (p l : Addr) (n : Nat) (rs : List Rc), vs = [.ref p, .ref l] ∧ BookAt S H p n rs ∧ LstOf RcL H l rs ∧ rs.length ≤ 100 ∧ n ≤ 24 ∧ (∀ r ∈ rs, RcOk n r) ∧ ∀ H', Same H H' → Q (.bl true) H'
def spSoldL : Sp := fun vs H Q _ => ∃ (l : Addr) (i n : Nat) (rs : List Rc), vs = [.ref l, .int i] ∧ LstOf RcL H l rs ∧ n ≤ 24 ∧ (∀ r ∈ rs, RcOk n r) ∧ ∀ H', Same H H' → Q (.int (soldOf rs i : Nat)) H'
def spLawBook (S : Addr) : Sp := fun vs H Q _ => ∃ (l : Addr) (n : Nat) (rs : List Rc), vs = [.int n, .ref l] ∧ LstOf RcL H l rs ∧ rs.length ≤ 100 ∧ n ≤ 24 ∧ (∀ r ∈ rs, RcOk n r) ∧ ∀ (x : Addr) (H' : Hp), Same H H' → H x = none → BookAt S H' x n rs → Q (.ref x) H'
def spNumbers (W : Addr) : Sp := fun vs H Q _ => ∃ (p : Addr) (ws : List Nat) (a : Nat), vs = [.ref p, .int (ws.length : Nat)] ∧ WtdAt W H p ws a ∧ Pos1 ws a ∧ ws.length ≤ 24 ∧ NewL H Q (fun ns => ns = ws ++ [a])
theorem book_made {S : Addr} {H : Hp} {Q : Addr → Hp → Prop} {l : Addr} {n : Nat} {rs : List Rc} (hl : LstOf RcL H l rs) (hn : n ≤ 24) (hlen : rs.length ≤ 1000) (ok : ∀ r ∈ rs, RcOk n r) (h : ∀ (x : Addr) (H' : Hp), Same H H' → H x = none → BookAt S H' x n rs → Q x H') :
    ∀ x dx, H x = none → H dx = none → dx ≠ x → spBook S (.ref x :: [.int n, .ref l]) (upd (upd H dx (.own x)) x (.ins S dx [])) (fun v H2 => v = .non ∧ Q x H2) E0 := by
  intro x dx nx ndx ne
  refine ⟨x, dx, l, n, rs, rfl, upd_same, hn, hl.same (fun a r z => RcL.same ?_ z) ?_, hlen, ok, fun H' r k => ⟨rfl, h x H' (Same.made nx ndx fun b o e hb => k b o e hb) nx r⟩⟩
  · exact Same.then_new (Same.new ndx) (by rw [upd_ne (Ne.symm ne)]; exact nx)
  · exact Same.then_new (Same.new ndx) (by rw [upd_ne (Ne.symm ne)]; exact nx)
theorem RcL.lst {H H2 : Hp} {e D : Addr} {o : HO} {r : Rc} (s : Same H H2) (hD : H D = none) (h : RcL H e r) : RcL (upd H2 D o) e r := by
  obtain ⟨pl, ps, e1, e2, e3⟩ := h
  exact ⟨pl, ps, by rw [upd_ne (ne_of_none e1 hD)]; exact s _ _ e1, by rw [upd_ne (ne_of_none e2 hD)]; exact s _ _ e2, by rw [upd_ne (ne_of_none e3 hD)]; exact s _ _ e3⟩
section
variable {P : Program} {w : World} {K : PySem.W.Frag} {mg : Str → Option Value} {base : Heap} {R W S D : Addr}
abbrev s__law_holds : Stmt := tops 43
abbrev N__law_holds : List Str := ["_law_book_here", "_law_due", "_law_rows", "_law_k", "_law_row_here"]
theorem sc__law_holds : FnScope N__law_holds ["_law_book_here", "_law_due"] (defScope s__law_holds) := ⟨rfl, rfl, rfl, by decide +kernel, rfl, by decide +kernel, by decide +kernel⟩
-- slots: 0 _law_book_here, 1 _law_due, 2 _law_rows, 3 _law_k, 4 _law_row_here
abbrev s__law_sold : Stmt := tops 44
abbrev N__law_sold : List Str := ["_law_records_here", "_law_thing", "_law_total", "_law_record", "_law_place"]
theorem sc__law_sold : FnScope N__law_sold ["_law_records_here", "_law_thing"] (defScope s__law_sold) := ⟨rfl, rfl, rfl, by decide +kernel, rfl, by decide +kernel, by decide +kernel⟩
-- slots: 0 _law_records_here, 1 _law_thing, 2 _law_total, 3 _law_record, 4 _law_place
abbrev s__law_book : Stmt := tops 39
abbrev N__law_book : List Str := ["_law_many", "_law_records_here", "_law_record"]
theorem sc__law_book : FnScope N__law_book ["_law_many", "_law_records_here"] (defScope s__law_book) := ⟨rfl, rfl, rfl, by decide +kernel, rfl, by decide +kernel, by decide +kernel⟩
-- slots: 0 _law_many, 1 _law_records_here, 2 _law_record
abbrev s__law_numbers_of : Stmt := tops 47
abbrev N__law_numbers_of : List Str := ["_law_rule", "_law_many", "_law_numbers", "_law_number"]
theorem sc__law_numbers_of : FnScope N__law_numbers_of ["_law_rule", "_law_many"] (defScope s__law_numbers_of) := ⟨rfl, rfl, rfl, by decide +kernel, rfl, by decide +kernel, by decide +kernel⟩
-- slots: 0 _law_rule, 1 _law_many, 2 _law_numbers, 3 _law_number
theorem ok_law_numbers_of {f : Addr} {fd : FuncData} (T : Tx K mg R W S) (h_law_is_int : Has P w K mg base 1 "_law_is_int" ["_law_x"] [] spIsInt) (F : Fun K "_law_numbers_of" "_law_numbers_of" s__law_numbers_of f fd) : FnOk P w K mg base CX0 2 f fd ["_law_rule", "_law_many"] (spNumbers W) := by
  refine F.ok sc__law_numbers_of (fun vs H Q E h => ?_) (fun cdv A outer s H vs Q E hr h => ?_)
  · obtain ⟨p, ws, a, rfl, _⟩ := h
    rfl
  · obtain ⟨p, ws, a, rfl, ⟨dx, lw, hp, hw⟩, pos, h24, k⟩ := h
    refine ⟨_, (pss_cons (ps_if (PW.pt (pw_or (pt_not (pt_val (pe_callB call_isi (by rfl) T.isinstance (by decide +kernel) (pa_cons (pv 0) (pa_cons (pe_glob (v := .ref W) rfl T.mgW rfl) pa_nil))))) (pw_or (pt_not (pt_val (pe_callB call_isi (by rfl) T.isinstance (by decide +kernel) (pa_cons (pe_fld (pv 0) rfl) (pa_cons (pe_bltn (v := .ty "tuple") (by rfl) T.tuple (by decide +kernel) rfl) pa_nil))))) (pw_or1 (pt_cmpR op_ne (pe_callB call_len (by rfl) T.len (by decide +kernel) (pa_cons (pe_fld (pv 0) rfl) pa_nil)) (pv 1) (nomark _)))))) (pss_one (ps_ret pe_non)) pss_nil)
    (pss_cons (ps_set (i := 2) sc__law_numbers_of.nd rfl (Or.inl rfl) (pe_op op_cat (pe_callTy call_list_of (by rfl) T.list (by decide +kernel) (pa_cons (pe_fld (pv 0) rfl) pa_nil)) (pe_lst (pa_cons (pe_fld (pv 0) rfl) pa_nil))))
    (pss_cons (ps_for PassesOwn.never rfl (pi_list (pv 2)) (pg_name (i := 3) sc__law_numbers_of.nd rfl (Or.inl rfl))
    (pss_one (ps_if (PW.pt (pw_or (pt_not (pt_val (pe_callH h_law_is_int (hr.mono (by decide)) rfl (pa_cons (pv 3) pa_nil)))) (pw_or1 (pt_cmpR op_lt (pv 3) pe_int (nomark _))))) (pss_one (ps_ret pe_non)) pss_nil)))
    (pss_one (ps_ret (pv 2)))))), ?_⟩
    refine ⟨_, rfl, .ref p, .ref W, .ref W, .ref W, true, rfl, .own _, .base (T.tyW _ _ _ _ hp), T.kWW, true, rfl, iteF ?_⟩
    refine ⟨_, rfl, p, W, dx, _, _, rfl, hp, T.clW, T.wWei, wf_weights _ _ _, .ref lw, .ty "tuple", .type "tuple", .type "tuple", true, rfl, .ty _, .base (.tup hw), kTT, true, rfl, iteF ?_⟩
    refine ⟨_, rfl, p, W, dx, _, _, rfl, hp, T.clW, T.wWei, wf_weights _ _ _, _, ws.length, rfl, .inr ⟨_, SqT.of hw, (vN_len ws).symm⟩, _, rfl, rfl, _, rfl, ?_⟩
    refine ifNN rfl ?_
    refine ⟨_, rfl, p, W, dx, _, _, rfl, hp, T.clW, T.wWei, wf_weights _ _ _, lw, _, rfl, .inr (SqT.of hw), fun l1 h1 => ?_⟩
    have s1 : Same H (upd H l1 (.lst (vN ws))) := Same.new h1
    refine ⟨_, rfl, p, W, dx, _, _, rfl, s1 _ _ hp, T.clW, T.wAs, wf_aside _ _ _, (by show 1 ≤ sizeLine; rw [sizeLine_eq]; decide), fun l2 h2 => ?_⟩
    have s2 : Same (upd H l1 (.lst (vN ws))) (upd (upd H l1 (.lst (vN ws))) l2 (.lst [.int a])) := Same.new h2
    refine ⟨l1, l2, vN ws, [.int a], rfl, rfl, s2 _ _ upd_same, upd_same, by rw [vN_len, sizeLine_eq]; show ws.length + 1 ≤ _; omega, fun l3 h3 => ?_⟩
    have s3 := Same.then_new (o := .lst (vN ws ++ [.int a])) (s1.trans s2) h3
    have e3 : upd (upd (upd H l1 (.lst (vN ws))) l2 (.lst [.int a])) l3 (.lst (vN ws ++ [.int a])) l3 = some (.lst (vN (ws ++ [a]))) := by rw [upd_same, vN_snoc]
    have n3 := Same.free (s1.trans s2) h3
    generalize upd (upd (upd H l1 (.lst (vN ws))) l2 (.lst [.int a])) l3 (.lst (vN ws ++ [.int a])) = H3 at s3 e3
    refine ⟨_, rfl, l3, rfl, ⟨_, SqL.of e3⟩, ?_⟩
    refine for_list (K := K) (a := l3) (xs := vN (ws ++ [a])) (fun i σ H' => ∃ v3, σ = [some (.ref p), some (.int ws.length), some (.ref l3), v3] ∧ H' = H3) ⟨_, rfl, rfl⟩ (fun i σ H' _ ⟨_, _, q⟩ => by rw [q]; exact SqL.of e3) ?_ ?_
    · rintro i x σ H' hx ⟨v3, rfl, rfl⟩
      obtain ⟨z, hz, rfl⟩ := vN_get hx
      have hz1 : 1 ≤ z := by
        rcases List.mem_append.mp (List.mem_of_getElem? hz) with h | h
        · exact pos.2 z h
        · rw [List.mem_singleton.mp h]
          exact pos.1
      refine ⟨_, rfl, z, rfl, true, rfl, iteF ⟨_, rfl, _, _, rfl, rfl, _, rfl, ?_⟩⟩
      exact ifN (by omega) ⟨_, rfl, rfl⟩
    · rintro σ H' ⟨v3, rfl, rfl⟩
      exact ⟨_, rfl, k l3 H' _ s3 n3 e3 rfl⟩
theorem ok_law_book {f : Addr} {fd : FuncData} (T : Tx K mg R W S) (hS : HasC P w K mg base 3 "SalesBook" S ["self", "many", "records"] [] (spBook S)) (F : Fun K "_law_book" "_law_book" s__law_book f fd) : FnOk P w K mg base CX0 5 f fd ["_law_many", "_law_records_here"] (spLawBook S) := by
  refine F.ok sc__law_book (fun vs H Q E h => ?_) (fun cdv A outer s H vs Q E hr h => ?_)
  · obtain ⟨l, n, rs, rfl, _⟩ := h
    rfl
  · obtain ⟨l, n, rs, rfl, ⟨as, hl, ea⟩, h100, hn, ok, k⟩ := h
    refine ⟨_, (pss_one (ps_ret (pe_makeH hS (hr.mono (by decide)) rfl (pa_cons (pv 0) (pa_cons (pe_lc (own := [("_law_record", 2)]) rfl sc__law_book.nd (pi_list (pv 1)) (blkOk_by (N := N__law_book) (sc := defScope s__law_book) (by decide +kernel)) (fun _ _ _ _ _ => (pg_name (i := 2) sc__law_book.nd rfl (Or.inl rfl) (.inr rfl))) (fun _ _ _ _ _ => pts_nil) (fun _ _ _ _ _ => (pe_tup (pa_cons (pe_ix (ix_tupK (K := K) rfl) (pv 2) pe_int (fun _ _ => rfl)) (pa_cons (pe_callTy (call_list_ofK (K := K) rfl) (by rfl) T.list (by decide +kernel) (pa_cons (pe_ix (ix_tupK (K := K) rfl) (pv 2) pe_int (fun _ _ => rfl)) pa_nil)) (pa_cons (pe_ix (ix_tupK (K := K) rfl) (pv 2) pe_int (fun _ _ => rfl)) pa_nil)))))) pa_nil))))), ?_⟩
    refine ⟨_, rfl, _, rfl, l, rfl, ⟨_, SqL.of hl⟩, fun D hD => ?_⟩
    refine lc_list (K := K) (a := l) (xs := as.map V.ref) (fun i H1 => Same H H1 ∧ ∃ bs : List Addr, H1 D = some (.lst (bs.map V.ref)) ∧ bs.length = i ∧ ∀ j b r, bs[j]? = some b → rs[j]? = some r → RcL H1 b r ∧ ∃ ps : Addr × Addr, H1 b = some (.tup [.ref ps.1, .ref ps.2, .int r.gone]) ∧ H1 ps.2 = some (.lst (vN r.sold)) ∧ ps.2 ≠ D ∧ H1 ps.1 = some (.tup (vN r.lot))) ⟨Same.new hD, [], upd_same, rfl, fun j b r e _ => absurd e (by rw [List.getElem?_nil]; exact fun z => nomatch z)⟩ (fun i H1 _ q => SqL.of (q.1 _ _ hl)) ?_ ?_
    · rintro i x H1 hx ⟨s1, bs, hD1, hbl, hbs⟩
      obtain ⟨q, r, rfl, hq, hr', pl, ps, e1, e2, e3⟩ := ea.get hx
      have okr := ok r (List.mem_of_getElem? hr')
      refine ⟨rfl, tyes_if ?_⟩
      refine ⟨_, rfl, q, _, _, _, rfl, rfl, SqT.of (s1 _ _ e1), rfl, ?_⟩
      refine ⟨_, rfl, q, _, _, _, rfl, rfl, SqT.of (s1 _ _ e1), rfl, ps, _, rfl, .inl (SqL.of (s1 _ _ e3)), fun m hm => ?_⟩
      have s2 : Same H1 (upd H1 m (.lst (vN r.sold))) := Same.new hm
      refine ⟨_, rfl, q, _, _, _, rfl, rfl, SqT.of (s2 _ _ (s1 _ _ e1)), rfl, (by show 3 ≤ sizeLine; rw [sizeLine_eq]; decide), fun e he => ?_⟩
      have s3 : Same H1 (upd (upd H1 m (.lst (vN r.sold))) e (.tup [.ref pl, .ref m, .int r.gone])) := Same.then_new s2 he
      have nmD : m ≠ D := fun z => by subst z; rw [hD1] at hm; cases hm
      have neD : e ≠ D := fun z => by subst z; rw [s2 _ _ hD1] at he; cases he
      have nme : m ≠ e := ne_of_none upd_same he
      refine ⟨_, s3 _ _ hD1, ?_, Same.then_set (s1.trans s3) hD, bs ++ [e], ?_, ?_, ?_⟩
      · rw [List.length_map, hbl, sizeLine_eq]
        have := (List.getElem?_eq_some_iff.mp hr').1
        omega
      · rw [upd_same, List.map_append]
        rfl
      · rw [List.length_append, hbl]
        rfl
      · have hplD : pl ≠ D := fun z => by subst z; rw [s1 _ _ e2] at hD1; cases hD1
        intro j b r' ej er
        by_cases hj : j < bs.length
        · rw [List.getElem?_append_left hj] at ej
          obtain ⟨_, ps', g1, g2, g3, g4⟩ := hbs j b r' ej er
          have nb : b ≠ D := fun z => by subst z; rw [hD1] at g1; cases g1
          have np : ps'.1 ≠ D := fun z => by rw [z, hD1] at g4; cases g4
          have f1 : upd (upd (upd H1 m (.lst (vN r.sold))) e (.tup [.ref pl, .ref m, .int r.gone])) D (.lst (bs.map V.ref ++ [.ref e])) b = some (.tup [.ref ps'.1, .ref ps'.2, .int r'.gone]) := by rw [upd_ne nb]; exact s3 _ _ g1
          have f2 : upd (upd (upd H1 m (.lst (vN r.sold))) e (.tup [.ref pl, .ref m, .int r.gone])) D (.lst (bs.map V.ref ++ [.ref e])) ps'.2 = some (.lst (vN r'.sold)) := by rw [upd_ne g3]; exact s3 _ _ g2
          have f4 : upd (upd (upd H1 m (.lst (vN r.sold))) e (.tup [.ref pl, .ref m, .int r.gone])) D (.lst (bs.map V.ref ++ [.ref e])) ps'.1 = some (.tup (vN r'.lot)) := by rw [upd_ne np]; exact s3 _ _ g4
          exact ⟨⟨ps'.1, ps'.2, f1, f4, f2⟩, ps', f1, f2, g3, f4⟩
        · rw [List.getElem?_append_right (by omega)] at ej
          cases hz : j - bs.length with
          | succ z => rw [hz] at ej; simp at ej
          | zero =>
            rw [hz] at ej
            cases Option.some.inj ej
            have : j = i := by omega
            subst this
            rw [hr'] at er
            cases Option.some.inj er
            have f1 : upd (upd (upd H1 m (.lst (vN r.sold))) e (.tup [.ref pl, .ref m, .int r.gone])) D (.lst (bs.map V.ref ++ [.ref e])) e = some (.tup [.ref pl, .ref m, .int r.gone]) := by rw [upd_ne neD, upd_same]
            have f2 : upd (upd (upd H1 m (.lst (vN r.sold))) e (.tup [.ref pl, .ref m, .int r.gone])) D (.lst (bs.map V.ref ++ [.ref e])) m = some (.lst (vN r.sold)) := by rw [upd_ne nmD, upd_ne nme, upd_same]
            have f4 : upd (upd (upd H1 m (.lst (vN r.sold))) e (.tup [.ref pl, .ref m, .int r.gone])) D (.lst (bs.map V.ref ++ [.ref e])) pl = some (.tup (vN r.lot)) := by rw [upd_ne hplD]; exact s3 _ _ (s1 _ _ e2)
            exact ⟨⟨pl, m, f1, f4, f2⟩, (pl, m), f1, f2, nmD, f4⟩
    · rintro H1 ⟨s1, bs, hD1, hbl, hbs⟩
      rw [List.length_map, ea.1] at hbl
      refine book_made (l := D) (rs := rs) ⟨bs, hD1, hbl, fun j b r e1 e2 => (hbs j b r e1 e2).1⟩ hn (by omega) ok fun x H2 s2 nx bx => ?_
      exact k x H2 (s1.trans s2) (Same.free s1 nx) bx
theorem ok_law_sold {f : Addr} {fd : FuncData} (T : Tx K mg R W S) (F : Fun K "_law_sold" "_law_sold" s__law_sold f fd) : FnOk P w K mg base CX0 1 f fd ["_law_records_here", "_law_thing"] spSoldL := by
  refine F.ok sc__law_sold (fun vs H Q E h => ?_) (fun cdv A outer s H vs Q E hr h => ?_)
  · obtain ⟨l, i, n, rs, rfl, _⟩ := h
    rfl
  · obtain ⟨l, th, n, rs, rfl, ⟨as, hl, ea⟩, hn, ok, k⟩ := h
    refine ⟨_, (pss_cons (ps_set (i := 2) sc__law_sold.nd rfl (Or.inl rfl) pe_int)
    (pss_cons (ps_for PassesOwn.never rfl (pi_list (pv 0)) (pg_name (i := 3) sc__law_sold.nd rfl (Or.inl rfl))
    (pss_one (ps_for PassesOwn.never rfl (pi_range1 rfl T.range (pa_cons (pe_callB call_len (by rfl) T.len (by decide +kernel) (pa_cons (pe_ix ix_tup (pv 3) pe_int (fun _ _ => rfl)) pa_nil)) pa_nil)) (pg_name (i := 4) sc__law_sold.nd rfl (Or.inl rfl))
    (pss_one (ps_if (pt_cmpR op_eq (pe_ix ix_tup (pe_ix ix_tup (pv 3) pe_int (fun _ _ => rfl)) (pv 4) (fun _ _ => rfl)) (pv 1) (nomark _)) (pss_one (ps_set (i := 2) sc__law_sold.nd rfl (Or.inl rfl) (pe_op op_add (pv 2) (pe_ix ix_list (pe_ix ix_tup (pv 3) pe_int (fun _ _ => rfl)) (pv 4) (fun _ _ => rfl))))) pss_nil)))))
    (pss_one (ps_ret (pv 2))))), ?_⟩
    refine ⟨_, rfl, l, rfl, ⟨_, SqL.of hl⟩, ?_⟩
    refine for_list (K := K) (a := l) (xs := as.map V.ref) (fun i σ H' => ∃ v3 v4, σ = [some (.ref l), some (.int th), some (.int (soldOf (rs.take i) th : Nat)), v3, v4] ∧ H' = H) ⟨_, _, rfl, rfl⟩ (fun i σ H' _ ⟨_, _, _, q⟩ => by rw [q]; exact SqL.of hl) ?_ ?_
    · rintro i x σ H' hx ⟨v3, v4, rfl, rfl⟩
      obtain ⟨q, r, rfl, hq, hr', pl, ps, e1, e2, e3⟩ := ea.get hx
      have okr := ok r (List.mem_of_getElem? hr')
      have hlen := okr.asc.len
      refine ⟨_, rfl, q, _, _, _, rfl, rfl, SqT.of e1, rfl, _, r.lot.length, rfl, .inr ⟨_, SqT.of e2, (vN_len _).symm⟩, r.lot.length, rfl, by omega, by omega, ?_⟩
      rw [Int.toNat_natCast]
      refine for_range (lo := 0) (n := r.lot.length) (fun j σ H2 => ∃ v4, σ = [some (.ref l), some (.int th), some (.int ((soldOf (rs.take i) th + (((r.lot.zip r.sold).take j).map fun p => if p.1 = th then p.2 else 0).sum : Nat) : Int)), some (.ref q), v4] ∧ H2 = H')
        ⟨_, rfl, rfl⟩ ?_ ?_
      · rintro j σ H2 hj ⟨v4, rfl, rfl⟩
        rw [Int.zero_add]
        have ha := List.getElem?_eq_getElem hj
        have hj2 : j < r.sold.length := by rw [okr.len]; exact hj
        have hb := List.getElem?_eq_getElem hj2
        refine ⟨_, rfl, q, _, _, _, rfl, rfl, SqT.of e1, rfl, _, rfl, pl, _, _, _, rfl, rfl, SqT.of e2, atI_nat (vN_at ha), _, rfl, rfl, _, rfl, ?_⟩
        rw [take_snoc (zip_get ha hb), List.map_append, List.sum_append]
        by_cases h : r.lot[j] = th
        · refine ifY (by rw [h]) ?_
          refine ⟨_, rfl, _, rfl, q, _, _, _, rfl, rfl, SqT.of e1, rfl, _, rfl, ps, _, _, _, rfl, rfl, SqL.of e3, atI_nat (vN_at hb), _, _, rfl, rfl, some (.int j), ?_, rfl⟩
          refine congrArg (fun z => [some (V.ref l), some (.int th), some (.int z), some (.ref q), some (.int j)]) ?_
          simp [h]
          omega
        · refine ifN (int_ne (by omega)) ⟨some (.int j), ?_, rfl⟩
          simp [h]
      · rintro σ H2 ⟨v4, rfl, rfl⟩
        refine ⟨some (.ref q), v4, ?_, rfl⟩
        have e : soldOf (rs.take (i + 1)) th = soldOf (rs.take i) th + cnt th r := by
          rw [take_snoc hr', soldOf_snoc]
        rw [e]
        unfold cnt
        have e2 : (r.lot.zip r.sold).take r.lot.length = r.lot.zip r.sold := List.take_of_length_le (by rw [List.length_zip]; exact Nat.min_le_left _ _)
        rw [e2]
    · rintro σ H' ⟨v3, v4, rfl, rfl⟩
      rw [List.length_map, ea.1, List.take_length]
      exact ⟨_, rfl, k H' (Same.refl _)⟩
theorem ok_law_holds {f fi fL : Addr} {fd fdi fdL : FuncData} {st : Stmt} (T : Tx K mg R W S) (IB : ItB K mg S fi fdi st) (IT : ItT st) (hs : PySem.W.findIn K (.ref S) "__len__" = some (some (.ref fL))) (hf : PySem.W.isFn K (.ref fL) = true) (FL : FnOk P w K mg base CX0 1 fL fdL ["self"] (spLenB S)) (bL : Binds K fdL ["self"] [])
    (h_law_same_lot : Has P w K mg base 2 "_law_same_lot" ["_law_x", "_law_due"] [] (spSameLot K)) (F : Fun K "_law_holds" "_law_holds" s__law_holds f fd) : FnOk P w K mg base CX0 7 f fd ["_law_book_here", "_law_due"] (spHolds S) := by
  refine F.ok sc__law_holds (fun vs H Q E h => ?_) (fun cdv A outer s H vs Q E hr h => ?_)
  · obtain ⟨p, l, n, rs, rfl, _⟩ := h
    rfl
  · obtain ⟨p, l, n, rs, rfl, ⟨dx, lb, hp, cs, hlb, ec⟩, ⟨as, hl, ea⟩, h100, hn, ok, k⟩ := h
    refine ⟨_, (pss_cons (ps_set (i := 2) sc__law_holds.nd rfl (Or.inl rfl) (pe_callTy (call_listB IB IT hs hf FL bL (hr.mono (by decide))) (by rfl) T.list (by decide +kernel) (pa_cons (pv 0) pa_nil)))
    (pss_cons (ps_if (pt_cmpR op_ne (pe_callB call_len (by rfl) T.len (by decide +kernel) (pa_cons (pv 2) pa_nil)) (pe_callB call_len (by rfl) T.len (by decide +kernel) (pa_cons (pv 1) pa_nil)) (nomark _)) (pss_one (ps_ret pe_bl)) pss_nil)
    (pss_cons (ps_for PassesOwn.never rfl (pi_range1 rfl T.range (pa_cons (pe_callB call_len (by rfl) T.len (by decide +kernel) (pa_cons (pv 1) pa_nil)) pa_nil)) (pg_name (i := 3) sc__law_holds.nd rfl (Or.inl rfl))
    (pss_cons (ps_set (i := 4) sc__law_holds.nd rfl (Or.inl rfl) (pe_ix ix_list (pv 2) (pv 3) (fun _ _ => rfl)))
    (pss_cons (ps_if (PW.pt (pw_or (pt_not (pt_val (pe_callB call_isi (by rfl) T.isinstance (by decide +kernel) (pa_cons (pv 4) (pa_cons (pe_bltn (v := .ty "tuple") (by rfl) T.tuple (by decide +kernel) rfl) pa_nil))))) (pw_or (pt_cmpR op_ne (pe_callB call_len (by rfl) T.len (by decide +kernel) (pa_cons (pv 4) pa_nil)) pe_int (nomark _)) (pw_or1 (pt_not (pt_val (pe_callH h_law_same_lot (hr.mono (by decide)) rfl (pa_cons (pe_ix ix_tup (pv 4) pe_int (fun _ _ => rfl)) (pa_cons (pe_ix ix_tup (pe_ix ix_list (pv 1) (pv 3) (fun _ _ => rfl)) pe_int (fun _ _ => rfl)) pa_nil))))))))) (pss_one (ps_ret pe_bl)) pss_nil)
    (pss_one (ps_if (PW.pt (pw_or (pt_not (pt_val (pe_callH h_law_same_lot (hr.mono (by decide)) rfl (pa_cons (pe_ix ix_tup (pv 4) pe_int (fun _ _ => rfl)) (pa_cons (pe_ix ix_tup (pe_ix ix_list (pv 1) (pv 3) (fun _ _ => rfl)) pe_int (fun _ _ => rfl)) pa_nil))))) (pw_or1 (pt_not (pt_val (pe_callH h_law_same_lot (hr.mono (by decide)) rfl (pa_cons (pe_tup (pa_cons (pe_ix ix_tup (pv 4) pe_int (fun _ _ => rfl)) pa_nil)) (pa_cons (pe_tup (pa_cons (pe_ix ix_tup (pe_ix ix_list (pv 1) (pv 3) (fun _ _ => rfl)) pe_int (fun _ _ => rfl)) pa_nil)) pa_nil)))))))) (pss_one (ps_ret pe_bl)) pss_nil)))))
    (pss_one (ps_ret pe_bl))))), ?_⟩
    have alen : as.length = rs.length := ea.1
    have clen : cs.length = rs.length := ec.1
    refine ⟨_, rfl, p, dx, _, lb, _, rfl, hp, sf_records _ _, hlb, by rw [List.length_map]; omega, fun D hD => ?_⟩
    have s0 : Same H (upd H D (.lst (cs.map V.ref))) := Same.new hD
    have hD0 : upd H D (.lst (cs.map V.ref)) D = some (.lst (cs.map V.ref)) := upd_same
    generalize upd H D (.lst (cs.map V.ref)) = H0 at s0 hD0
    refine ⟨_, rfl, _, cs.length, rfl, .inl ⟨_, SqL.of hD0, by rw [List.length_map]⟩, _, rfl, _, as.length, rfl, .inl ⟨_, SqL.of (s0 _ _ hl), by rw [List.length_map]⟩, rfl, _, rfl, ?_⟩
    refine ifNN (by rw [alen, clen]) ?_
    refine ⟨_, rfl, _, as.length, rfl, .inl ⟨_, SqL.of (s0 _ _ hl), by rw [List.length_map]⟩, as.length, rfl, by omega, by omega, ?_⟩
    rw [Int.toNat_natCast]
    refine for_range (lo := 0) (n := as.length) (fun i σ H' => ∃ v3 v4, σ = [some (.ref p), some (.ref l), some (.ref D), v3, v4] ∧ Same H0 H') ⟨_, _, rfl, Same.refl _⟩ ?_ ?_
    · rintro i σ H' hi ⟨v3, v4, rfl, s1⟩
      rw [Int.zero_add]
      have hic : i < cs.length := by omega
      have hir : i < rs.length := by omega
      have s01 := s0.trans s1
      have hac := List.getElem?_eq_getElem hi
      have hcc := List.getElem?_eq_getElem hic
      have hrr := List.getElem?_eq_getElem hir
      obtain ⟨pl, ps, a1, a2, a3⟩ := ea.2 i _ _ hac hrr
      obtain ⟨ql, qs, c1, c2, c3⟩ := ec.2 i _ _ hcc hrr
      have okr := ok _ (List.getElem_mem hir)
      have l1 := okr.asc.len
      have l2 := okr.len
      have hci : (cs.map V.ref)[i]? = some (.ref cs[i]) := by rw [List.getElem?_map, hcc]; rfl
      have hai : (as.map V.ref)[i]? = some (.ref as[i]) := by rw [List.getElem?_map, hac]; rfl
      refine ⟨_, rfl, _, rfl, D, _, _, _, rfl, rfl, SqL.of (s1 _ _ hD0), atI_nat hci, ?_⟩
      refine ⟨_, rfl, .ref cs[i], .ty "tuple", .type "tuple", .type "tuple", true, rfl, .ty _, .base (.tup (s01 _ _ c1)), kTT, true, rfl, iteF ?_⟩
      refine ⟨_, rfl, _, 3, rfl, .inr ⟨_, SqT.of (s01 _ _ c1), rfl⟩, rfl, _, rfl, ifNN rfl ?_⟩
      refine ⟨_, rfl, cs[i], _, _, _, rfl, rfl, SqT.of (s01 _ _ c1), rfl, _, rfl, _, rfl, l, _, _, _, rfl, rfl, SqL.of (s01 _ _ hl), atI_nat hai, as[i], _, _, _, rfl, rfl, SqT.of (s01 _ _ a1), rfl, ?_⟩
      refine ⟨ql, pl, rs[i].lot, rfl, s01 _ _ c2, .inr (s01 _ _ a2), by omega, true, rfl, iteF ?_⟩
      refine ⟨_, rfl, cs[i], _, _, _, rfl, rfl, SqT.of (s01 _ _ c1), rfl, _, rfl, _, rfl, l, _, _, _, rfl, rfl, SqL.of (s01 _ _ hl), atI_nat hai, as[i], _, _, _, rfl, rfl, SqT.of (s01 _ _ a1), rfl, ?_⟩
      refine ⟨qs, ps, rs[i].sold, rfl, s01 _ _ c3, .inl (s01 _ _ a3), by omega, true, rfl, iteF ?_⟩
      refine ⟨_, rfl, cs[i], _, _, _, rfl, rfl, SqT.of (s01 _ _ c1), rfl, (by show 1 ≤ sizeLine; rw [sizeLine_eq]; decide), fun t1 ht1 => ?_⟩
      have s2 : Same H' (upd H' t1 (.tup [.int rs[i].gone])) := Same.new ht1
      have s02 := s01.trans s2
      refine ⟨_, rfl, _, rfl, l, _, _, _, rfl, rfl, SqL.of (s02 _ _ hl), atI_nat hai, as[i], _, _, _, rfl, rfl, SqT.of (s02 _ _ a1), rfl, (by show 1 ≤ sizeLine; rw [sizeLine_eq]; decide), fun t2 ht2 => ?_⟩
      refine ⟨t1, t2, [rs[i].gone], rfl, (Same.new ht2) _ _ upd_same, .inr upd_same, by show 1 ≤ 1000; decide, true, rfl, iteF ?_⟩
      exact ⟨_, _, rfl, s1.trans (Same.then_new s2 ht2)⟩
    · rintro σ H' ⟨v3, v4, rfl, s1⟩
      exact k H' (s0.trans s1)
end
end Dl

namespace Dl
open PySem PySem.Spec PyProof.Rows L2
def placesR (rs : List Rc) (r : Rc) : List Nat := (List.range r.lot.length).filter fun i => decide (0 < soldOf rs (r.lot.getD i 0))
def keepR (rs : List Rc) (r : Rc) : Rc := ⟨(placesR rs r).map fun i => r.lot.getD i 0, (placesR rs r).map fun i => r.sold.getD i 0, r.gone⟩
def RcLD (D : Addr) (H : Hp) (p : Addr) (r : Rc) : Prop := ∃ pl ps, H p = some (.tup [.ref pl, .ref ps, .int r.gone]) ∧ H pl = some (.tup (vN r.lot)) ∧ H ps = some (.lst (vN r.sold)) ∧ ps ≠ D
theorem RcLD.rcl {D : Addr} {H : Hp} {p : Addr} {r : Rc} (h : RcLD D H p r) : RcL H p r := let ⟨pl, ps, a, b, c, _⟩ := h; ⟨pl, ps, a, b, c⟩
theorem RcLD.push {D : Addr} {H H2 : Hp} {p : Addr} {r : Rc} {xs : List V} {o : HO} (s : Same H H2) (hD : H2 D = some (.lst xs)) (h : RcLD D H p r) : RcLD D (upd H2 D o) p r := by
  obtain ⟨pl, ps, a, b, c, d⟩ := h
  refine ⟨pl, ps, ?_, ?_, ?_, d⟩
  · rw [upd_ne (fun z => by subst z; rw [s _ _ a] at hD; cases hD)]; exact s _ _ a
  · rw [upd_ne (fun z => by subst z; rw [s _ _ b] at hD; cases hD)]; exact s _ _ b
  · rw [upd_ne d]; exact s _ _ c
theorem RcLD.same {D : Addr} {H H' : Hp} {p : Addr} {r : Rc} (s : Same H H') (h : RcLD D H p r) : RcLD D H' p r := let ⟨pl, ps, a, b, c, d⟩ := h; ⟨pl, ps, s _ _ a, s _ _ b, s _ _ c, d⟩
def spKept : Sp := fun vs H Q _ => ∃ (l : Addr) (n : Nat) (rs : List Rc), vs = [.ref l] ∧ LstOf RcL H l rs ∧ n ≤ 24 ∧ (∀ r ∈ rs, RcOk n r) ∧ rs.length ≤ 100 ∧ ∀ (x : Addr) (H' : Hp), Same H H' → H x = none → LstOf RcL H' x (rs.map (keepR rs)) → Q (.ref x) H'
theorem getD_at {l : List Nat} {i : Nat} (h : i < l.length) : l[i]? = some (l.getD i 0) := by
  rw [List.getD_eq_getElem?_getD, List.getElem?_eq_getElem h]
  rfl
section
variable {P : Program} {w : World} {K : PySem.W.Frag} {mg : Str → Option Value} {base : Heap} {R W S D : Addr}
abbrev s__law_sold_ones : Stmt := tops 45
abbrev N__law_sold_ones : List Str := ["_law_records_here", "_law_kept", "_law_record", "_law_place", "_law_places", "_law_lot_here"]
theorem sc__law_sold_ones : FnScope N__law_sold_ones ["_law_records_here"] (defScope s__law_sold_ones) := ⟨rfl, rfl, rfl, by decide +kernel, rfl, by decide +kernel, by decide +kernel⟩
-- slots: 0 _law_records_here (cell), 1 _law_kept, 2 _law_record (cell), 3 _law_place, 4 _law_places, 5 _law_lot_here
theorem ok_law_sold_ones {f : Addr} {fd : FuncData} (T : Tx K mg R W S) (h_law_sold : Has P w K mg base 1 "_law_sold" ["_law_records_here", "_law_thing"] [] spSoldL) (F : Fun K "_law_sold_ones" "_law_sold_ones" s__law_sold_ones f fd) : FnOk P w K mg base CX0 2 f fd ["_law_records_here"] spKept := by
  refine F.ok sc__law_sold_ones (fun vs H Q E h => ?_) (fun cdv A outer s H vs Q E hr h => ?_)
  · obtain ⟨l, n, rs, rfl, _⟩ := h
    rfl
  · obtain ⟨l, n, rs, rfl, ⟨as, hl, ea⟩, hn, ok, h100, k⟩ := h
    refine ⟨_, (pss_cons (ps_set (i := 1) sc__law_sold_ones.nd rfl (Or.inl rfl) (pe_lst pa_nil))
    (pss_cons (ps_for PassesOwn.never rfl (pi_list (pv 0)) (pg_name (i := 2) sc__law_sold_ones.nd rfl (Or.inr rfl))
    (pss_cons (ps_setLc (i := 4) (own := [("_law_place", 3)]) rfl sc__law_sold_ones.nd rfl rfl (sw_true rfl rfl rfl (by decide +kernel)) (pi_range1 rfl T.range (pa_cons (pe_callB call_len (by rfl) T.len (by decide +kernel) (pa_cons (pe_ix ix_tup (pv 2) pe_int (fun _ _ => rfl)) pa_nil)) pa_nil)) (blkOk_by (N := N__law_sold_ones) (sc := defScope s__law_sold_ones) (by decide +kernel)) (fun _ _ _ _ _ => (pg_name (i := 3) sc__law_sold_ones.nd rfl (Or.inl rfl) (.inr rfl))) (fun _ _ _ _ _ => pts_one (pt_cmpR op_gt (pe_callH h_law_sold (hr.mono (by decide)) rfl (pa_cons (pv 0) (pa_cons (pe_ix (ix_tupK (K := K) rfl) (pe_ix (ix_tupK (K := K) rfl) (pv 2) pe_int (fun _ _ => rfl)) (pv 3) (fun _ _ => rfl)) pa_nil))) pe_int (nomark _))) (fun _ _ _ _ _ => (pv 3)))
    (pss_cons (ps_set (i := 5) sc__law_sold_ones.nd rfl (Or.inl rfl) (pe_callTy call_tuple_of (by rfl) T.tuple (by decide +kernel) (pa_cons (pe_lc (own := [("_law_place", 3)]) rfl sc__law_sold_ones.nd (pi_list (pv 4)) (blkOk_by (N := N__law_sold_ones) (sc := defScope s__law_sold_ones) (by decide +kernel)) (fun _ _ _ _ _ => (pg_name (i := 3) sc__law_sold_ones.nd rfl (Or.inl rfl) (.inr rfl))) (fun _ _ _ _ _ => pts_nil) (fun _ _ _ _ _ => (pe_ix (ix_tupK (K := K) rfl) (pe_ix (ix_tupK (K := K) rfl) (pv 2) pe_int (fun _ _ => rfl)) (pv 3) (fun _ _ => rfl)))) pa_nil)))
    (pss_one (ps_expr (pe_bm PySem.F.plainAttrs_list PySem.F.slot_list_append PySem.F.type_list_append mt_append (pv 1) (pa_cons (pe_tup (pa_cons (pv 5) (pa_cons (pe_lc (own := [("_law_place", 3)]) rfl sc__law_sold_ones.nd (pi_list (pv 4)) (blkOk_by (N := N__law_sold_ones) (sc := defScope s__law_sold_ones) (by decide +kernel)) (fun _ _ _ _ _ => (pg_name (i := 3) sc__law_sold_ones.nd rfl (Or.inl rfl) (.inr rfl))) (fun _ _ _ _ _ => pts_nil) (fun _ _ _ _ _ => (pe_ix (ix_listK (K := K) rfl) (pe_ix (ix_tupK (K := K) rfl) (pv 2) pe_int (fun _ _ => rfl)) (pv 3) (fun _ _ => rfl)))) (pa_cons (pe_ix ix_tup (pv 2) pe_int (fun _ _ => rfl)) pa_nil)))) pa_nil)))))))
    (pss_one (ps_ret (pv 1))))), ?_⟩
    refine ⟨(by show 0 ≤ sizeLine; exact Nat.zero_le _), fun D hD => ?_⟩
    have lrs : LstOf RcL H l rs := ⟨as, hl, ea⟩
    refine ⟨_, rfl, l, rfl, ⟨_, SqL.of ((Same.new hD) _ _ hl)⟩, ?_⟩
    refine for_list (K := K) (a := l) (xs := as.map V.ref) (fun i σ H' => ∃ v2 v3 v4 v5 bs, σ = [some (.ref l), some (.ref D), v2, v3, v4, v5] ∧ Same H H' ∧ H' D = some (.lst (bs.map V.ref)) ∧ Each (RcLD D) H' bs ((rs.take i).map (keepR rs))) ⟨_, _, _, _, [], rfl, Same.new hD, upd_same, Each.nil⟩ (fun i σ H' _ ⟨_, _, _, _, _, _, q, _⟩ => SqL.of (q _ _ hl)) ?_ ?_
    · rintro i x σ H' hx ⟨v2, v3, v4, v5, bs, rfl, s1, hD', eb⟩
      obtain ⟨q, r, rfl, hq, hr', pl, ps, e1, e2, e3⟩ := ea.get hx
      have okr := ok r (List.mem_of_getElem? hr')
      have l1 := okr.asc.len
      have l2 := okr.len
      refine ⟨_, rfl, q, _, _, _, rfl, rfl, SqT.of (s1 _ _ e1), rfl, _, r.lot.length, rfl, .inr ⟨_, SqT.of (s1 _ _ e2), (vN_len _).symm⟩, r.lot.length, rfl, by omega, by omega, fun E1 hE1 => ?_⟩
      rw [Int.toNat_natCast]
      refine lc_range (lo := 0) (n := r.lot.length) (fun j H2 => Same H' H2 ∧ H2 E1 = some (.lst (vN ((List.range j).filter fun i => decide (0 < soldOf rs (r.lot.getD i 0)))))) ⟨Same.new hE1, upd_same⟩ ?_ ?_
      · rintro j H2 hj ⟨s2, hE2⟩
        rw [Int.zero_add]
        have s12 := s1.trans s2
        refine ⟨rfl, ?_⟩
        refine ⟨_, rfl, _, rfl, q, _, _, _, rfl, rfl, SqT.of (s12 _ _ e1), rfl, _, rfl, pl, _, _, _, rfl, rfl, SqT.of (s12 _ _ e2), atI_nat (vN_at (getD_at hj)), l, r.lot.getD j 0, n, rs, rfl, lrs.same (fun a r z => RcL.same s12 z) s12, hn, ok, fun H3 s3 => ?_⟩
        refine ⟨_, _, rfl, rfl, _, rfl, ?_⟩
        have s23 := s2.trans s3
        have hE3 := s3 _ _ hE2
        rw [filter_succ]
        by_cases h : 0 < soldOf rs (r.lot.getD j 0)
        · refine ifY (by omega) ?_
          refine ⟨_, rfl, _, hE3, ?_, Same.then_set s23 hE1, ?_⟩
          · rw [vN_len, sizeLine_eq]
            have := List.length_filter_le (fun i => decide (0 < soldOf rs (r.lot.getD i 0))) (List.range j)
            rw [List.length_range] at this
            omega
          · rw [upd_same, decide_eq_true h, if_pos rfl, vN_snoc]
        · refine ifN (by omega) ⟨s23, ?_⟩
          rw [decide_eq_false h]
          simpa using hE3
      rintro H2 ⟨s2, hE2⟩
      have s12 := s1.trans s2
      have hE2' : H2 E1 = some (.lst (vN (placesR rs r))) := hE2
      have hpl : ∀ i ∈ placesR rs r, i < r.lot.length := fun i hi => List.mem_range.mp (List.mem_filter.mp hi).1
      have hpn : (placesR rs r).length ≤ 24 := by
        have := List.length_filter_le (fun i => decide (0 < soldOf rs (r.lot.getD i 0))) (List.range r.lot.length)
        rw [List.length_range] at this
        unfold placesR
        omega
      refine ⟨_, rfl, E1, rfl, ⟨_, SqL.of hE2'⟩, fun E2 hE2n => ?_⟩
      refine lc_list (K := K) (a := E1) (xs := vN (placesR rs r)) (fun j H3 => Same H2 H3 ∧ H3 E2 = some (.lst (vN (((placesR rs r).take j).map fun i => r.lot.getD i 0)))) ⟨Same.new hE2n, upd_same⟩ (fun i H1 _ q => SqL.of (q.1 _ _ hE2')) ?_ ?_
      · rintro j x H3 hx3 ⟨s3, hE3⟩
        obtain ⟨z, hz, rfl⟩ := vN_get hx3
        have s13 := s12.trans s3
        refine ⟨rfl, tyes_if ?_⟩
        refine ⟨_, rfl, q, _, _, _, rfl, rfl, SqT.of (s13 _ _ e1), rfl, _, rfl, pl, _, _, _, rfl, rfl, SqT.of (s13 _ _ e2), atI_nat (vN_at (getD_at (hpl z (List.mem_of_getElem? hz)))), _, hE3, ?_, Same.then_set s3 hE2n, ?_⟩
        · rw [vN_len, List.length_map, List.length_take, sizeLine_eq]
          omega
        · rw [upd_same, take_snoc hz, List.map_append]
          show some (HO.lst (vN _ ++ [V.int (r.lot.getD z 0 : Nat)])) = some (HO.lst (vN (_ ++ [r.lot.getD z 0])))
          rw [vN_snoc]
      rintro H3 ⟨s3, hE3⟩
      rw [vN_len, List.take_length] at hE3
      refine ⟨E2, _, rfl, .inl ⟨SqL.of hE3, fun t1 ht1 => ?_⟩⟩
      have s13 := s12.trans s3
      have s4 : Same H3 (upd H3 t1 (.tup (vN ((placesR rs r).map fun i => r.lot.getD i 0)))) := Same.new ht1
      have hT1 : upd H3 t1 (.tup (vN ((placesR rs r).map fun i => r.lot.getD i 0))) t1 = some (.tup (vN ((placesR rs r).map fun i => r.lot.getD i 0))) := upd_same
      generalize upd H3 t1 (.tup (vN ((placesR rs r).map fun i => r.lot.getD i 0))) = H4 at s4 hT1
      have s14 := s13.trans s4
      have s24 := s3.trans s4
      have hE14 := s24 _ _ hE2'
      have hD4 : H4 D = some (.lst (bs.map V.ref)) := (s2.trans s24) _ _ hD'
      refine ⟨_, rfl, .inl ⟨rfl, _, SqL.of hD4⟩, ?_⟩
      refine ⟨_, rfl, _, rfl, E1, rfl, ⟨_, SqL.of hE14⟩, fun E3 hE3n => ?_⟩
      refine lc_list (K := K) (a := E1) (xs := vN (placesR rs r)) (fun j H5 => Same H4 H5 ∧ H5 E3 = some (.lst (vN (((placesR rs r).take j).map fun i => r.sold.getD i 0)))) ⟨Same.new hE3n, upd_same⟩ (fun i H1 _ q => SqL.of (q.1 _ _ hE14)) ?_ ?_
      · rintro j x H5 hx5 ⟨s5, hE5⟩
        obtain ⟨z, hz, rfl⟩ := vN_get hx5
        have s15 := s14.trans s5
        refine ⟨rfl, tyes_if ?_⟩
        refine ⟨_, rfl, q, _, _, _, rfl, rfl, SqT.of (s15 _ _ e1), rfl, _, rfl, ps, _, _, _, rfl, rfl, SqL.of (s15 _ _ e3), atI_nat (vN_at (getD_at (by rw [l2]; exact hpl z (List.mem_of_getElem? hz)))), _, hE5, ?_, Same.then_set s5 hE3n, ?_⟩
        · rw [vN_len, List.length_map, List.length_take, sizeLine_eq]
          omega
        · rw [upd_same, take_snoc hz, List.map_append]
          show some (HO.lst (vN _ ++ [V.int (r.sold.getD z 0 : Nat)])) = some (HO.lst (vN (_ ++ [r.sold.getD z 0])))
          rw [vN_snoc]
      rintro H5 ⟨s5, hE5⟩
      rw [vN_len, List.take_length] at hE5
      have s15 := s14.trans s5
      refine ⟨_, rfl, q, _, _, _, rfl, rfl, SqT.of (s15 _ _ e1), rfl, (by show 3 ≤ sizeLine; rw [sizeLine_eq]; decide), fun e he => ?_⟩
      have s6 : Same H5 (upd H5 e (.tup [.ref t1, .ref E3, .int r.gone])) := Same.new he
      have hD6 := s6 _ _ (s5 _ _ hD4)
      have hE3D : E3 ≠ D := fun z => by subst z; rw [hD4] at hE3n; cases hE3n
      have s16 := s15.trans s6
      have sall : Same H' (upd H5 e (.tup [.ref t1, .ref E3, .int r.gone])) := s2.trans (s24.trans (s5.trans s6))
      refine ⟨D, _, _, rfl, rfl, hD6, by rw [List.length_map, eb.1, List.length_map, List.length_take, sizeLine_eq]; omega, ?_⟩
      refine ⟨_, _, _, _, bs ++ [e], rfl, Same.then_set s16 hD, by rw [upd_same, List.map_append]; rfl, ?_⟩
      rw [take_snoc hr', List.map_append]
      refine (eb.imp fun _ _ z => RcLD.push sall hD6 z).snoc (RcLD.push (Same.refl _) hD6 ⟨t1, E3, upd_same, (s5.trans s6) _ _ hT1, s6 _ _ hE5, hE3D⟩)
    · rintro σ H' ⟨v2, v3, v4, v5, bs, rfl, s1, hD', eb⟩
      rw [List.length_map, ea.1, List.take_length] at eb
      exact ⟨_, rfl, k D H' s1 hD ⟨bs, hD', eb.imp fun _ _ z => z.rcl⟩⟩
end
end Dl

namespace Dl
open PySem PySem.Spec PyProof.Rows L2
def spChance : Sp := fun vs H Q _ => ∃ (ln lr : Addr) (ws : List Nat) (a : Nat) (rs : List Rc), vs = [.ref ln, .ref lr, .int (ws.length : Nat)] ∧ H ln = some (.lst (vN (ws ++ [a]))) ∧ LstOf RcL H lr rs ∧ 1 ≤ a ∧ ws.length ≤ 4 ∧ rs.length ≤ 4 ∧ (∀ r ∈ rs, RcOk ws.length r) ∧ (rs.map nOf).sum ≤ 24 ∧ (∀ r ∈ rs, tot ws a r.lot < 2 ^ 10000) ∧
  ∀ (x : Addr) (H' : Hp), Same H H' → H x = none → H' x = some (.tup [.int (chTop ws a rs : Nat), .int (chBot ws a rs : Nat)]) → Cp (chTop ws a rs : Nat) → Cp (chBot ws a rs : Nat) → Q (.ref x) H'
theorem fac_at {ws : List Nat} {a : Nat} {r : Rc} {j : Nat} (hj : j < r.lot.length) (hl : r.sold.length = r.lot.length) : (fac ws a r)[j]? = some (ws.getD (r.lot.getD j 0) 0, r.sold.getD j 0) := by
  unfold fac
  have h1 : (r.lot.zip r.sold)[j]? = some (r.lot.getD j 0, r.sold.getD j 0) := zip_get (getD_at hj) (getD_at (by omega))
  have hz : j < ((r.lot.zip r.sold).map fun ic : Nat × Nat => (ws.getD ic.1 0, ic.2)).length := by rw [List.length_map, List.length_zip]; omega
  rw [List.getElem?_append_left hz, List.getElem?_map, h1]
  rfl
theorem fac_end {ws : List Nat} {a : Nat} {r : Rc} (hl : r.sold.length = r.lot.length) : (fac ws a r)[r.lot.length]? = some (a, r.gone) := by
  unfold fac
  have hz : ((r.lot.zip r.sold).map fun ic : Nat × Nat => (ws.getD ic.1 0, ic.2)).length = r.lot.length := by rw [List.length_map, List.length_zip]; omega
  rw [List.getElem?_append_right (by omega), hz, Nat.sub_self]
  rfl
theorem fac_len {ws : List Nat} {a : Nat} {r : Rc} (hl : r.sold.length = r.lot.length) : (fac ws a r).length = r.lot.length + 1 := by
  unfold fac
  rw [List.length_append, List.length_map, List.length_zip, hl, Nat.min_self]
  rfl
theorem cn_take_le (l : List (Nat × Nat)) (j : Nat) : cn (l.take j) ≤ cn l := by
  unfold cn
  induction l generalizing j with
  | nil => simp
  | cons y l ih =>
    cases j with
    | zero => simp
    | succ j =>
      rw [List.take_succ_cons, List.map_cons, List.sum_cons, List.map_cons, List.sum_cons]
      have := ih j
      omega
theorem shr_self {M T x : Nat} (hT : 1 ≤ T) (hTM : T ≤ M) (hx : x ≤ M) : Shr M T x (x : Nat) (T : Nat) := ⟨by omega, rfl, by rw [Int.natAbs_natCast]; exact hx, by rw [Int.natAbs_natCast]; exact hTM⟩
section
variable {P : Program} {w : World} {K : PySem.W.Frag} {mg : Str → Option Value} {base : Heap} {R W S D : Addr}
abbrev s__law_chance : Stmt := tops 46
abbrev N__law_chance : List Str := ["_law_numbers", "_law_records_here", "_law_many", "_law_top", "_law_bottom", "_law_record", "_law_thing", "_law_total", "_law_place", "_law_k"]
theorem sc__law_chance : FnScope N__law_chance ["_law_numbers", "_law_records_here", "_law_many"] (defScope s__law_chance) := ⟨rfl, rfl, rfl, by decide +kernel, rfl, by decide +kernel, by decide +kernel⟩
-- slots: 0 _law_numbers (cell), 1 _law_records_here, 2 _law_many, 3 _law_top, 4 _law_bottom, 5 _law_record, 6 _law_thing, 7 _law_total, 8 _law_place, 9 _law_k
theorem ok_law_chance {f : Addr} {fd : FuncData} (T : Tx K mg R W S) (F : Fun K "_law_chance" "_law_chance" s__law_chance f fd) : FnOk P w K mg base CX0 1 f fd ["_law_numbers", "_law_records_here", "_law_many"] spChance := by
  refine F.ok sc__law_chance (fun vs H Q E h => ?_) (fun cdv A outer s H vs Q E hr h => ?_)
  · obtain ⟨ln, lr, ws, a, rs, rfl, _⟩ := h
    rfl
  · obtain ⟨ln, lr, ws, a, rs, rfl, hln, ⟨as, hl, ea⟩, ha, n4, rs4, ok, few, big, k⟩ := h
    obtain ⟨M, hM, hM1, hMT⟩ := lik_bound
    have hcap : ∀ (z : Int) (c : Nat), c ≤ 24 → z.natAbs ≤ M ^ c → Cp z := fun z c hc h => pw_cap (k := 40001) hM hc (by decide) h
    have hna : (vN (ws ++ [a]))[ws.length]? = some (.int (a : Nat)) := vN_at (by rw [List.getElem?_append_right (Nat.le_refl _), Nat.sub_self]; rfl)
    have hnw : ∀ i, i < ws.length → (vN (ws ++ [a]))[i]? = some (.int (ws.getD i 0 : Nat)) := fun i hi => vN_at (by rw [List.getElem?_append_left hi]; exact getD_at hi)
    refine ⟨_, (pss_cons (ps_set (i := 3) sc__law_chance.nd rfl (Or.inl rfl) pe_int)
    (pss_cons (ps_set (i := 4) sc__law_chance.nd rfl (Or.inl rfl) pe_int)
    (pss_cons (ps_for PassesOwn.never rfl (pi_list (pv 1)) (pg_name (i := 5) sc__law_chance.nd rfl (Or.inl rfl))
    (pss_cons (ps_set (i := 7) sc__law_chance.nd rfl (Or.inl rfl) (pe_op op_add (pe_ix ix_list (pv 0) (pv 2) (fun _ _ => rfl)) (pe_callB (cr_sum rfl) (by rfl) T.sum (by decide +kernel) (pa_cons (pe_lc (own := [("_law_thing", 6)]) rfl sc__law_chance.nd (pi_tup (pe_ix ix_tup (pv 5) pe_int (fun _ _ => rfl))) (blkOk_by (N := N__law_chance) (sc := defScope s__law_chance) (by decide +kernel)) (fun _ _ _ _ _ => (pg_name (i := 6) sc__law_chance.nd rfl (Or.inl rfl) (.inr rfl))) (fun _ _ _ _ _ => pts_nil) (fun _ _ _ _ _ => (pe_ix (ix_listK (K := K) rfl) (pv 0) (pv 6) (fun _ _ => rfl)))) pa_nil))))
    (pss_cons (ps_for PassesOwn.never rfl (pi_range1 rfl T.range (pa_cons (pe_callB call_len (by rfl) T.len (by decide +kernel) (pa_cons (pe_ix ix_tup (pv 5) pe_int (fun _ _ => rfl)) pa_nil)) pa_nil)) (pg_name (i := 8) sc__law_chance.nd rfl (Or.inl rfl))
    (pss_one (ps_for PassesOwn.never rfl (pi_range1 rfl T.range (pa_cons (pe_ix ix_list (pe_ix ix_tup (pv 5) pe_int (fun _ _ => rfl)) (pv 8) (fun _ _ => rfl)) pa_nil)) (pg_name (i := 9) sc__law_chance.nd rfl (Or.inl rfl))
    (pss_cons (ps_set (i := 3) sc__law_chance.nd rfl (Or.inl rfl) (pe_op op_mulX (pv 3) (pe_ix ix_list (pv 0) (pe_ix ix_tup (pe_ix ix_tup (pv 5) pe_int (fun _ _ => rfl)) (pv 8) (fun _ _ => rfl)) (fun _ _ => rfl))))
    (pss_one (ps_set (i := 4) sc__law_chance.nd rfl (Or.inl rfl) (pe_op op_mulX (pv 4) (pv 7))))))))
    (pss_one (ps_for PassesOwn.never rfl (pi_range1 rfl T.range (pa_cons (pe_ix ix_tup (pv 5) pe_int (fun _ _ => rfl)) pa_nil)) (pg_name (i := 9) sc__law_chance.nd rfl (Or.inl rfl))
    (pss_cons (ps_set (i := 3) sc__law_chance.nd rfl (Or.inl rfl) (pe_op op_mulX (pv 3) (pe_ix ix_list (pv 0) (pv 2) (fun _ _ => rfl))))
    (pss_one (ps_set (i := 4) sc__law_chance.nd rfl (Or.inl rfl) (pe_op op_mulX (pv 4) (pv 7))))))))))
    (pss_one (ps_ret (pe_tup (pa_cons (pv 3) (pa_cons (pv 4) pa_nil)))))))), ?_⟩
    refine ⟨_, rfl, lr, rfl, ⟨_, SqL.of hl⟩, ?_⟩
    refine for_list (K := K) (a := lr) (xs := as.map V.ref) (fun i σ H' => ∃ (t b : Nat) (v5 v6 v7 v8 v9 : Option V), σ = [some (.ref ln), some (.ref lr), some (.int ws.length), some (.int t), some (.int b), v5, v6, v7, v8, v9] ∧ Same H H' ∧ t = chTop ws a (rs.take i) ∧ b = chBot ws a (rs.take i) ∧ Mul M t b (chCn ws a (rs.take i)) t b)
      ⟨1, 1, _, _, _, _, _, rfl, Same.refl _, rfl, rfl, ⟨by decide, rfl, Nat.le_refl _, Nat.le_refl _⟩⟩ (fun i σ H' _ ⟨_, _, _, _, _, _, _, _, q, _⟩ => SqL.of (q _ _ hl)) ?_ ?_
    · rintro i x σ H1 hx ⟨t, b, v5, v6, v7, v8, v9, rfl, s1, et, eb, mu⟩
      obtain ⟨q, r, rfl, hq, hr', pl, ps, e1, e2, e3⟩ := ea.get hx
      have hrm := List.mem_of_getElem? hr'
      have okr := ok r hrm
      have l1 := okr.asc.len
      have l2 := okr.len
      have hT := tot_pos (ws := ws) (lot := r.lot) ha
      obtain ⟨hTn, hTM⟩ := hMT _ (big r hrm) hT
      have hcn : chCn ws a (rs.take i) + cn (fac ws a r) ≤ 24 := by
        rw [← chCn_snoc, ← take_snoc hr', chCn_le (fun r h => ok r (List.mem_of_mem_take h))]
        exact Nat.le_trans (sum_take_le nOf rs (i + 1)) few
      refine ⟨_, rfl, _, rfl, ln, _, _, _, rfl, rfl, SqL.of (s1 _ _ hln), atI_nat hna, ?_⟩
      refine ⟨_, rfl, q, _, _, _, rfl, rfl, SqT.of (s1 _ _ e1), rfl, pl, rfl, ⟨_, SqT.of (s1 _ _ e2)⟩, fun E1 hE1 => ?_⟩
      refine lc_tup (K := K) (a := pl) (xs := vN r.lot) (fun j H2 => Same H1 H2 ∧ H2 E1 = some (.lst ((r.lot.take j).map fun j => V.int ((ws.getD j 0 : Nat) : Int)))) ⟨Same.new hE1, upd_same⟩ (fun i H' _ q => SqT.of ((s1.trans q.1) _ _ e2)) ?_ ?_
      · rintro j x H2 hx2 ⟨s2, hE2⟩
        obtain ⟨z, hz, rfl⟩ := vN_get hx2
        have hzl := okr.asc.lt z (List.mem_of_getElem? hz)
        refine ⟨rfl, tyes_if ?_⟩
        refine ⟨_, rfl, _, rfl, ln, _, _, _, rfl, rfl, SqL.of ((s1.trans s2) _ _ hln), atI_nat (hnw z hzl), _, hE2, ?_, Same.then_set s2 hE1, ?_⟩
        · rw [List.length_map, List.length_take, sizeLine_eq]
          omega
        · rw [upd_same, take_snoc hz, List.map_append]
          rfl
      rintro H2 ⟨s2, hE2⟩
      rw [vN_len, List.take_length] at hE2
      have s12 := s1.trans s2
      refine ⟨E1, r.lot.map fun j => ((ws.getD j 0 : Nat) : Int), rfl, SqL.of (by rw [hE2, List.map_map]; rfl), _, _, rfl, rfl, ?_⟩
      have etot : ((a : Int) + (r.lot.map fun j => ((ws.getD j 0 : Nat) : Int)).sum) = ((tot ws a r.lot : Nat) : Int) := by
        have := sum_cast (r.lot.map fun j => ws.getD j 0)
        rw [List.map_map] at this
        unfold tot
        rw [Int.natCast_add, ← this]
        rfl
      dsimp only
      rw [etot]
      refine ⟨_, rfl, q, _, _, _, rfl, rfl, SqT.of (s12 _ _ e1), rfl, _, r.lot.length, rfl, .inr ⟨_, SqT.of (s12 _ _ e2), (vN_len _).symm⟩, r.lot.length, rfl, by omega, by omega, ?_⟩
      rw [Int.toNat_natCast]
      have flen := fac_len (ws := ws) (a := a) l2
      refine for_range (lo := 0) (n := r.lot.length) (fun j σ H' => ∃ (t b : Nat) (v6 v8 v9 : Option V), σ = [some (.ref ln), some (.ref lr), some (.int ws.length), some (.int t), some (.int b), some (.ref q), v6, some (.int (tot ws a r.lot : Nat)), v8, v9] ∧ H' = H2 ∧
          t = chTop ws a (rs.take i) * pw ((fac ws a r).take j) ∧ b = chBot ws a (rs.take i) * tot ws a r.lot ^ cn ((fac ws a r).take j) ∧ Mul M t b (chCn ws a (rs.take i) + cn ((fac ws a r).take j)) t b)
        ⟨t, b, _, _, _, rfl, rfl, by rw [List.take_zero]; show t = _ * 1; rw [Nat.mul_one]; exact et, by rw [List.take_zero]; show b = _ * _ ^ 0; rw [Nat.pow_zero, Nat.mul_one]; exact eb, by rw [List.take_zero]; exact mu⟩ ?_ ?_
      · rintro j σ H' hj ⟨t, b, v6, v8, v9, rfl, rfl, et, eb, mu2⟩
        rw [Int.zero_add]
        have hfa := fac_at (ws := ws) (a := a) hj l2
        have hzl := okr.asc.lt _ (List.mem_of_getElem? (getD_at hj))
        have hci : cn ((fac ws a r).take j) + r.sold.getD j 0 ≤ cn (fac ws a r) := by
          have := cn_take_le (fac ws a r) (j + 1)
          rw [take_snoc hfa, cn_snoc] at this
          exact this
        refine ⟨_, rfl, q, _, _, _, rfl, rfl, SqT.of (s12 _ _ e1), rfl, _, rfl, ps, _, _, _, rfl, rfl, SqL.of (s12 _ _ e3), atI_nat (vN_at (getD_at (by omega))), r.sold.getD j 0, rfl, by omega, by omega, ?_⟩
        rw [Int.toNat_natCast]
        have shr : Shr M (tot ws a r.lot) (ws.getD (r.lot.getD j 0) 0) (ws.getD (r.lot.getD j 0) 0 : Nat) (tot ws a r.lot : Nat) := shr_self hT hTM (Nat.le_trans (getD_le_tot (List.mem_of_getElem? (getD_at hj))) hTM)
        refine for_range (lo := 0) (n := r.sold.getD j 0) (fun k σ H3 => ∃ (t b : Nat) (v6 v9 : Option V), σ = [some (.ref ln), some (.ref lr), some (.int ws.length), some (.int t), some (.int b), some (.ref q), v6, some (.int (tot ws a r.lot : Nat)), some (.int j), v9] ∧ H3 = H' ∧
            t = chTop ws a (rs.take i) * pw ((fac ws a r).take j) * ws.getD (r.lot.getD j 0) 0 ^ k ∧ b = chBot ws a (rs.take i) * tot ws a r.lot ^ cn ((fac ws a r).take j) * tot ws a r.lot ^ k ∧ Mul M t b (chCn ws a (rs.take i) + cn ((fac ws a r).take j) + k) t b)
          ⟨t, b, _, _, rfl, rfl, by rw [Nat.pow_zero, Nat.mul_one]; exact et, by rw [Nat.pow_zero, Nat.mul_one]; exact eb, mu2⟩ ?_ ?_
        · rintro k σ H3 hk ⟨t, b, v6, v9, rfl, rfl, et, eb, mu3⟩
          rw [Int.zero_add]
          have ck : chCn ws a (rs.take i) + cn ((fac ws a r).take j) + k ≤ 24 := by omega
          refine ⟨_, rfl, _, rfl, _, rfl, q, _, _, _, rfl, rfl, SqT.of (s12 _ _ e1), rfl, _, rfl, pl, _, _, _, rfl, rfl, SqT.of (s12 _ _ e2), atI_nat (vN_at (getD_at hj)), ln, _, _, _, rfl, rfl, SqL.of (s12 _ _ hln), atI_nat (hnw _ hzl), _, _, rfl, rfl, mul_cap (hcap _ _ ck mu3.lt) (hcap _ 1 (by decide) (by rw [Nat.pow_one]; exact shr.lt)), ?_⟩
          refine ⟨_, rfl, _, rfl, _, _, rfl, rfl, mul_cap (hcap _ _ ck mu3.lb) (hcap _ 1 (by decide) (by rw [Nat.pow_one]; exact shr.lb)), ?_⟩
          refine ⟨t * ws.getD (r.lot.getD j 0) 0, b * tot ws a r.lot, v6, some (.int k), ?_, rfl, ?_, ?_, ?_⟩
          · rw [Int.natCast_mul, Int.natCast_mul]
            rfl
          · rw [et, Nat.pow_succ, ← Nat.mul_assoc]
          · rw [eb, Nat.pow_succ, ← Nat.mul_assoc]
          · have := mu3.step shr
            rw [← Int.natCast_mul, ← Int.natCast_mul] at this
            exact this
        · rintro σ H3 ⟨t, b, v6, v9, rfl, rfl, et, eb, mu3⟩
          refine ⟨t, b, _, _, _, rfl, rfl, ?_, ?_, ?_⟩
          · rw [take_snoc hfa, pw_snoc, ← Nat.mul_assoc]
            exact et
          · rw [take_snoc hfa, cn_snoc, Nat.pow_add, ← Nat.mul_assoc]
            exact eb
          · rw [take_snoc hfa, cn_snoc, ← Nat.add_assoc]
            exact mu3
      · rintro σ H' ⟨t, b, v6, v8, v9, rfl, rfl, et, eb, mu2⟩
        have hfe := fac_end (ws := ws) (a := a) l2
        have hfull : (fac ws a r).take (r.lot.length + 1) = fac ws a r := List.take_of_length_le (by omega)
        have hci : cn ((fac ws a r).take r.lot.length) + r.gone ≤ cn (fac ws a r) := by
          have := cn_take_le (fac ws a r) (r.lot.length + 1)
          rw [take_snoc hfe, cn_snoc] at this
          exact this
        refine ⟨_, rfl, q, _, _, _, rfl, rfl, SqT.of (s12 _ _ e1), rfl, r.gone, rfl, by omega, by omega, ?_⟩
        rw [Int.toNat_natCast]
        have shr : Shr M (tot ws a r.lot) a (a : Nat) (tot ws a r.lot : Nat) := shr_self hT hTM (by unfold tot at hTM; omega)
        refine for_range (lo := 0) (n := r.gone) (fun k σ H3 => ∃ (t b : Nat) (v6 v8 v9 : Option V), σ = [some (.ref ln), some (.ref lr), some (.int ws.length), some (.int t), some (.int b), some (.ref q), v6, some (.int (tot ws a r.lot : Nat)), v8, v9] ∧ H3 = H' ∧
            t = chTop ws a (rs.take i) * pw ((fac ws a r).take r.lot.length) * a ^ k ∧ b = chBot ws a (rs.take i) * tot ws a r.lot ^ cn ((fac ws a r).take r.lot.length) * tot ws a r.lot ^ k ∧ Mul M t b (chCn ws a (rs.take i) + cn ((fac ws a r).take r.lot.length) + k) t b)
          ⟨t, b, _, _, _, rfl, rfl, by rw [Nat.pow_zero, Nat.mul_one]; exact et, by rw [Nat.pow_zero, Nat.mul_one]; exact eb, mu2⟩ ?_ ?_
        · rintro k σ H3 hk ⟨t, b, v6, v8, v9, rfl, rfl, et, eb, mu3⟩
          rw [Int.zero_add]
          have ck : chCn ws a (rs.take i) + cn ((fac ws a r).take r.lot.length) + k ≤ 24 := by omega
          refine ⟨_, rfl, _, rfl, _, rfl, ln, _, _, _, rfl, rfl, SqL.of (s12 _ _ hln), atI_nat hna, _, _, rfl, rfl, mul_cap (hcap _ _ ck mu3.lt) (hcap _ 1 (by decide) (by rw [Nat.pow_one]; exact shr.lt)), ?_⟩
          refine ⟨_, rfl, _, rfl, _, _, rfl, rfl, mul_cap (hcap _ _ ck mu3.lb) (hcap _ 1 (by decide) (by rw [Nat.pow_one]; exact shr.lb)), ?_⟩
          refine ⟨t * a, b * tot ws a r.lot, v6, v8, some (.int k), ?_, rfl, ?_, ?_, ?_⟩
          · rw [Int.natCast_mul, Int.natCast_mul]
            rfl
          · rw [et, Nat.pow_succ, ← Nat.mul_assoc]
          · rw [eb, Nat.pow_succ, ← Nat.mul_assoc]
          · have := mu3.step shr
            rw [← Int.natCast_mul, ← Int.natCast_mul] at this
            exact this
        · rintro σ H3 ⟨t, b, v6, v8, v9, rfl, rfl, et, eb, mu3⟩
          have ef : fac ws a r = (fac ws a r).take r.lot.length ++ [(a, r.gone)] := by rw [← take_snoc hfe, hfull]
          refine ⟨t, b, _, _, _, _, _, rfl, s12, ?_, ?_, ?_⟩
          · rw [take_snoc hr', chTop_snoc, ef, pw_snoc, ← Nat.mul_assoc]
            exact et
          · rw [take_snoc hr', chBot_snoc, ef, cn_snoc, Nat.pow_add, ← Nat.mul_assoc]
            exact eb
          · rw [take_snoc hr', chCn_snoc, ef, cn_snoc, ← Nat.add_assoc]
            exact mu3
    · rintro σ H1 ⟨t, b, v5, v6, v7, v8, v9, rfl, s1, et, eb, mu⟩
      rw [List.length_map, ea.1, List.take_length] at et eb mu
      have hc : chCn ws a rs ≤ 24 := by rw [chCn_le ok]; exact few
      refine ⟨_, rfl, _, rfl, (by show 2 ≤ sizeLine; rw [sizeLine_eq]; decide), fun x hx => ?_⟩
      subst et eb
      exact k x _ (Same.then_new s1 hx) (Same.free s1 hx) upd_same (hcap _ _ hc mu.lt) (hcap _ _ hc mu.lb)
end
end Dl

namespace Dl
open PySem PySem.Spec PyProof.Rows L2
def szs : List Nat := [16, 25, 25, 25, 25, 25]
def RowD (D : Addr) (H : Hp) (a : Addr) (ds : List Nat) : Prop := H a = some (.lst (vN ds)) ∧ Below szs ds ∧ a ≠ D
def lenR (n : Nat) (ds : List Nat) : Nat := (lotF (ds.getD 0 0) n).length
def sumR (n : Nat) (dss : List (List Nat)) : Nat := (dss.map (lenR n)).sum
theorem sumR_snoc (n : Nat) (l : List (List Nat)) (x : List Nat) : sumR n (l ++ [x]) = sumR n l + lenR n x := by
  unfold sumR
  rw [List.map_append, List.sum_append]
  simp
theorem sumR_le {n : Nat} (hn : n ≤ 4) (l : List (List Nat)) : sumR n l ≤ 4 * l.length := by
  unfold sumR
  induction l with
  | nil => exact Nat.le_refl _
  | cons x l ih =>
    rw [List.map_cons, List.sum_cons, List.length_cons]
    have : lenR n x ≤ 4 := Nat.le_trans (lotF_asc _ n).len hn
    omega
def spRecords (K : PySem.W.Frag) : Sp := fun vs H Q _ => ∃ (l : Addr) (zs : List Int) (pl n c lift bound : Nat), vs = [.ref l, .int pl, .int n, .int c, .int lift, .int bound] ∧ SqL K H l (zs.map V.int) ∧ (∀ z ∈ zs, Cp z) ∧ n ≤ 4 ∧ c ≤ 4 ∧ lift ≤ 1 ∧ 1 ≤ bound ∧
  ∀ (x : Addr) (H' : Hp) (rs : List Rc), Same H H' → H x = none → LstOf RcL H' x rs → rs.length = c → (∀ r ∈ rs, RcOk n r) → (rs.map nOf).sum ≤ 24 → Q (.ref x) H'
section
variable {P : Program} {w : World} {K : PySem.W.Frag} {mg : Str → Option Value} {base : Heap} {R W S D : Addr}
abbrev s__law_records : Stmt := tops 38
abbrev N__law_records : List Str := ["_law_script", "_law_place", "_law_many", "_law_count", "_law_lift", "_law_bound", "_law_k", "_law_rows", "_law_left", "_law_row_here", "_law_records_here", "_law_lot_here", "_law_numbers", "_law_room", "_law_extra", "_law_gone"]
theorem sc__law_records : FnScope N__law_records ["_law_script", "_law_place", "_law_many", "_law_count", "_law_lift", "_law_bound"] (defScope s__law_records) := ⟨rfl, rfl, rfl, by decide +kernel, rfl, by decide +kernel, by decide +kernel⟩
-- slots: 0 _law_script (cell), 1 _law_place (cell), 2 _law_many, 3 _law_count, 4 _law_lift, 5 _law_bound, 6 _law_k, 7 _law_rows, 8 _law_left, 9 _law_row_here, 10 _law_records_here, 11 _law_lot_here, 12 _law_numbers, 13 _law_room, 14 _law_extra, 15 _law_gone
theorem ok_law_records {f : Addr} {fd : FuncData} (T : Tx K mg R W S) (h_law_cell : Has P w K mg base 1 "_law_cell" ["_law_script", "_law_place"] [] (spCell K)) (h_law_draws : Has P w K mg base 33 "_law_draws" ["_law_cell_here", "_law_sizes"] [] spDraws) (h_law_lot : Has P w K mg base 33 "_law_lot" ["_law_bits", "_law_many"] [] spLot)
    (F : Fun K "_law_records" "_law_records" s__law_records f fd) : FnOk P w K mg base CX0 34 f fd ["_law_script", "_law_place", "_law_many", "_law_count", "_law_lift", "_law_bound"] (spRecords K) := by
  refine F.ok sc__law_records (fun vs H Q E h => ?_) (fun cdv A outer s H vs Q E hr h => ?_)
  · obtain ⟨l, zs, pl, n, c, lift, bound, rfl, _⟩ := h
    rfl
  · obtain ⟨l, zs, pl, n, c, lift, bound, rfl, hl, hz, hn, hc, hlift, hbound, kk⟩ := h
    refine ⟨_, (pss_cons (ps_setLc (i := 7) (own := [("_law_k", 6)]) rfl sc__law_records.nd rfl rfl (sw_true rfl rfl rfl (by decide +kernel)) (pi_range1 rfl T.range (pa_cons (pv 3) pa_nil)) (blkOk_by (N := N__law_records) (sc := defScope s__law_records) (by decide +kernel)) (fun _ _ _ _ _ => (pg_name (i := 6) sc__law_records.nd rfl (Or.inl rfl) (.inr rfl))) (fun _ _ _ _ _ => pts_nil) (fun _ _ _ _ _ => (pe_callH h_law_draws (hr.mono (by decide)) rfl (pa_cons (pe_callH h_law_cell (hr.mono (by decide)) rfl (pa_cons (pv 0) (pa_cons (pe_op op_add (pv 1) (pv 6)) pa_nil))) (pa_cons (pe_lst (pa_cons pe_int (pa_cons pe_int (pa_cons pe_int (pa_cons pe_int (pa_cons pe_int (pa_cons pe_int pa_nil))))))) pa_nil)))))
    (pss_cons (ps_set (i := 8) sc__law_records.nd rfl (Or.inl rfl) pe_int)
    (pss_cons (ps_for PassesOwn.never rfl (pi_list (pv 7)) (pg_name (i := 9) sc__law_records.nd rfl (Or.inl rfl))
    (pss_one (ps_set (i := 8) sc__law_records.nd rfl (Or.inl rfl) (pe_op op_sub (pv 8) (pe_op op_mulX (pv 4) (pe_callB call_len (by rfl) T.len (by decide +kernel) (pa_cons (pe_callH h_law_lot (hr.mono (by decide)) rfl (pa_cons (pe_ix ix_list (pv 9) pe_int (fun _ _ => rfl)) (pa_cons (pv 2) pa_nil))) pa_nil)))))))
    (pss_cons (ps_set (i := 10) sc__law_records.nd rfl (Or.inl rfl) (pe_lst pa_nil))
    (pss_cons (ps_for PassesOwn.never rfl (pi_list (pv 7)) (pg_name (i := 9) sc__law_records.nd rfl (Or.inl rfl))
    (pss_cons (ps_set (i := 11) sc__law_records.nd rfl (Or.inl rfl) (pe_callH h_law_lot (hr.mono (by decide)) rfl (pa_cons (pe_ix ix_list (pv 9) pe_int (fun _ _ => rfl)) (pa_cons (pv 2) pa_nil))))
    (pss_cons (ps_set (i := 12) sc__law_records.nd rfl (Or.inl rfl) (pe_lst pa_nil))
    (pss_cons (ps_for PassesOwn.never rfl (pi_range1 rfl T.range (pa_cons (pe_op op_add (pe_callB call_len (by rfl) T.len (by decide +kernel) (pa_cons (pv 11) pa_nil)) pe_int) pa_nil)) (pg_name (i := 6) sc__law_records.nd rfl (Or.inl rfl))
    (pss_cons (ps_set (i := 13) sc__law_records.nd rfl (Or.inl rfl) (pe_op op_add (pv 8) pe_int))
    (pss_cons (ps_if (pt_cmpR op_lt (pv 5) (pv 13) (nomark _)) (pss_one (ps_set (i := 13) sc__law_records.nd rfl (Or.inl rfl) (pv 5))) pss_nil)
    (pss_cons (ps_set (i := 14) sc__law_records.nd rfl (Or.inl rfl) (pe_op op_mod (pe_callTy call_int1 (by rfl) T.int (by decide +kernel) (pa_cons (pe_ix ix_list (pv 9) (pe_op op_add pe_int (pv 6)) (fun _ _ => rfl)) pa_nil)) (pv 13)))
    (pss_cons (ps_set (i := 8) sc__law_records.nd rfl (Or.inl rfl) (pe_op op_sub (pv 8) (pv 14)))
    (pss_one (ps_expr (pe_bm PySem.F.plainAttrs_list PySem.F.slot_list_append PySem.F.type_list_append mt_append (pv 12) (pa_cons (pe_op op_add (pv 14) (pv 4)) pa_nil)))))))))
    (pss_cons (ps_set (i := 15) sc__law_records.nd rfl (Or.inl rfl) (pe_op op_sub (pe_bm0 PySem.F.plainAttrs_list PySem.F.slot_list_pop PySem.F.type_list_pop mt_pop (pv 12)) (pv 4)))
    (pss_one (ps_expr (pe_bm PySem.F.plainAttrs_list PySem.F.slot_list_append PySem.F.type_list_append mt_append (pv 10) (pa_cons (pe_tup (pa_cons (pv 11) (pa_cons (pv 12) (pa_cons (pv 15) pa_nil)))) pa_nil)))))))))
    (pss_one (ps_ret (pv 10)))))))), ?_⟩
    refine ⟨_, rfl, c, rfl, by omega, by omega, fun D hD => ?_⟩
    rw [Int.toNat_natCast]
    refine lc_range (lo := 0) (n := c) (fun i H' => Same H H' ∧ ∃ (bs : List Addr) (dss : List (List Nat)), H' D = some (.lst (bs.map V.ref)) ∧ dss.length = i ∧ Each (RowD D) H' bs dss) ⟨Same.new hD, [], [], upd_same, rfl, Each.nil⟩ ?_ ?_
    · rintro i H' hi ⟨s1, bs, dss, hD', hdl, eb⟩
      rw [Int.zero_add]
      refine ⟨rfl, tyes_if ?_⟩
      refine ⟨_, rfl, _, rfl, _, rfl, _, _, rfl, rfl, l, zs, pl + i, by rw [Int.natCast_add]; rfl, Same.seq s1 hl, hz, fun z hzc => ?_⟩
      refine ⟨(by show 6 ≤ sizeLine; rw [sizeLine_eq]; decide), fun L0 hL0 => ?_⟩
      have s2 : Same H' (upd H' L0 (.lst (vN szs))) := Same.new hL0
      refine ⟨L0, z, szs, rfl, upd_same, by decide, by decide, hzc, fun x H2 ds s3 nx hx be => ?_⟩
      have s23 := s2.trans s3
      have nxD : x ≠ D := fun z => by subst z; cases nx.symm.trans (s2 _ _ hD')
      refine ⟨_, s23 _ _ hD', ?_, Same.then_set (s1.trans s23) hD, bs ++ [x], dss ++ [ds], ?_, ?_, ?_⟩
      · rw [List.length_map, eb.1, hdl, sizeLine_eq]
        omega
      · rw [upd_same, List.map_append]
        rfl
      · rw [List.length_append, hdl]
        rfl
      · refine (eb.imp fun a ds z => ⟨?_, z.2.1, z.2.2⟩).snoc ⟨by rw [upd_ne nxD]; exact hx, be, nxD⟩
        rw [upd_ne z.2.2]
        exact s23 _ _ z.1
    rintro H1 ⟨s1, bs, dss, hD1, hdl, eb⟩
    have hbl : bs.length = c := by rw [eb.1, hdl]
    have hsum := sumR_le hn dss
    have hls : lift * sumR n dss ≤ sumR n dss := by
      have := Nat.mul_le_mul_right (sumR n dss) hlift
      omega
    refine ⟨_, rfl, D, rfl, ⟨_, SqL.of hD1⟩, ?_⟩
    refine for_list (K := K) (a := D) (xs := bs.map V.ref) (fun i σ H' => ∃ (L : Nat) (v6 v9 v10 v11 v12 v13 v14 v15 : Option V), σ = [some (.ref l), some (.int pl), some (.int n), some (.int c), some (.int lift), some (.int bound), v6, some (.ref D), some (.int L), v9, v10, v11, v12, v13, v14, v15] ∧ Same H1 H' ∧ L + lift * sumR n (dss.take i) = 24)
      ⟨24, _, _, _, _, _, _, _, _, rfl, Same.refl _, rfl⟩ (fun i σ H' _ ⟨_, _, _, _, _, _, _, _, _, _, q, _⟩ => SqL.of (q _ _ hD1)) ?_ ?_
    · rintro i x σ H' hx ⟨L, v6, v9, v10, v11, v12, v13, v14, v15, rfl, s2, hL⟩
      obtain ⟨a, ds, rfl, ha, hds, hrow, hbe, hne⟩ := eb.get hx
      have hd0 : ds[0]? = some (ds.getD 0 0) := getD_at (by rw [hbe.1]; decide)
      have hl4 : lenR n ds ≤ 4 := Nat.le_trans (lotF_asc _ n).len hn
      refine ⟨_, rfl, _, rfl, _, rfl, a, _, _, _, rfl, rfl, SqL.of (s2 _ _ hrow), (atI_nat (j := 0) (vN_at hd0)), _, rfl, ds.getD 0 0, n, rfl, hn, fun y H3 s3 ny hy => ?_⟩
      refine ⟨_, lenR n ds, rfl, .inr ⟨_, SqT.of hy, (vN_len _).symm⟩, _, _, rfl, rfl, mul_cap (bd_le (k := 64) (by omega) (by decide)) (bd_le (k := 64) (by omega) (by decide)), _, _, rfl, rfl, ?_⟩
      have hle : lift * sumR n (dss.take (i + 1)) ≤ lift * sumR n dss := by
        refine Nat.mul_le_mul_left _ ?_
        unfold sumR
        have key : ∀ (l : List (List Nat)) (j : Nat), ((l.take j).map (lenR n)).sum ≤ (l.map (lenR n)).sum := by
          intro l
          induction l with
          | nil => intro j; simp
          | cons y l ih =>
            intro j
            cases j with
            | zero => simp
            | succ j =>
              rw [List.take_succ_cons, List.map_cons, List.sum_cons, List.map_cons, List.sum_cons]
              have := ih j
              omega
        exact key _ _
      rw [take_snoc hds, sumR_snoc, Nat.mul_add] at hle
      refine ⟨L - lift * lenR n ds, v6, some (.ref a), v10, v11, v12, v13, v14, v15, ?_, s2.trans s3, ?_⟩
      · have : ((L : Int) - (lift : Int) * (lenR n ds : Int)) = ((L - lift * lenR n ds : Nat) : Int) := by
          rw [← Int.natCast_mul]
          omega
        show [_, _, _, _, _, _, _, _, some (V.int ((L : Int) - (lift : Int) * (lenR n ds : Int))), _, _, _, _, _, _, _] = _
        rw [this]
      · rw [take_snoc hds, sumR_snoc, Nat.mul_add]
        omega
    rintro σ H2 ⟨L, v6, v9, v10, v11, v12, v13, v14, v15, rfl, s2, hL⟩
    rw [List.length_map, eb.1, List.take_length] at hL
    refine ⟨(by show 0 ≤ sizeLine; exact Nat.zero_le _), fun D2 hD2 => ?_⟩
    have s12 := s1.trans s2
    refine ⟨_, rfl, D, rfl, ⟨_, SqL.of ((s2.trans (Same.new hD2)) _ _ hD1)⟩, ?_⟩
    refine for_list (K := K) (a := D) (xs := bs.map V.ref) (fun i σ H' => ∃ (L : Nat) (v6 v9 v11 v12 v13 v14 v15 : Option V) (cs : List Addr) (rs : List Rc), σ = [some (.ref l), some (.int pl), some (.int n), some (.int c), some (.int lift), some (.int bound), v6, some (.ref D), some (.int L), v9, some (.ref D2), v11, v12, v13, v14, v15] ∧ Same H2 H' ∧ H' D2 = some (.lst (cs.map V.ref)) ∧ Each (RcLD D2) H' cs rs ∧ rs.length = i ∧ (∀ r ∈ rs, RcOk n r) ∧
        (rs.map nOf).sum + L + lift * sumR n dss = 24 + lift * sumR n (dss.take i))
      ⟨L, _, _, _, _, _, _, _, [], [], rfl, Same.new hD2, upd_same, Each.nil, rfl, fun r h => (nomatch h), by show 0 + L + _ = 24 + lift * 0; omega⟩ (fun i σ H' _ ⟨_, _, _, _, _, _, _, _, _, _, _, q, _⟩ => SqL.of ((s2.trans q) _ _ hD1)) ?_ ?_
    · rintro i x σ H' hx ⟨L, v6, v9, v11, v12, v13, v14, v15, cs, rs, rfl, s3, hD3, ec, hrl, okr, hsumr⟩
      obtain ⟨a, ds, rfl, ha, hds, hrow0, hbe, hne⟩ := eb.get hx
      have hi : i < dss.length := (List.getElem?_eq_some_iff.mp hds).1
      have hrow1 := (s2.trans s3) _ _ hrow0
      have hd0 : ds[0]? = some (ds.getD 0 0) := getD_at (by rw [hbe.1]; decide)
      have hl4 : lenR n ds ≤ 4 := Nat.le_trans (lotF_asc _ n).len hn
      refine ⟨_, rfl, a, _, _, _, rfl, rfl, SqL.of hrow1, (atI_nat (j := 0) (vN_at hd0)), _, rfl, ds.getD 0 0, n, rfl, hn, fun y H3 s4 ny hy => ?_⟩
      refine ⟨(by show 0 ≤ sizeLine; exact Nat.zero_le _), fun N hN => ?_⟩
      have s5 : Same H3 (upd H3 N (.lst [])) := Same.new hN
      refine ⟨_, rfl, _, lenR n ds, rfl, .inr ⟨_, SqT.of (s5 _ _ hy), (vN_len _).symm⟩, _, _, rfl, rfl, lenR n ds + 1, rfl, by omega, by omega, ?_⟩
      rw [show ((lenR n ds : Int) + 1).toNat = lenR n ds + 1 by omega]
      refine for_range (lo := 0) (n := lenR n ds + 1) (fun k σ H4 => ∃ (L2 : Nat) (v6 v13 v14 : Option V) (nums : List Nat), σ = [some (.ref l), some (.int pl), some (.int n), some (.int c), some (.int lift), some (.int bound), v6, some (.ref D), some (.int L2), some (.ref a), some (.ref D2), some (.ref y), some (.ref N), v13, v14, v15] ∧ Same H3 H4 ∧ H4 N = some (.lst (vN nums)) ∧ nums.length = k ∧ (∀ z ∈ nums, lift ≤ z) ∧ nums.sum + L2 = L + lift * k)
        ⟨L, _, _, _, [], rfl, s5, upd_same, rfl, fun z h => (nomatch h), by show 0 + L = L + lift * 0; omega⟩ ?_ ?_
      · rintro k σ H4 hk ⟨L2, v6, v13, v14, nums, rfl, s6, hN4, hnl, hnums, hL2⟩
        rw [Int.zero_add]
        have hrow := (s4.trans s6) _ _ hrow1
        have hd1 : ds[1 + k]? = some (ds.getD (1 + k) 0) := getD_at (by rw [hbe.1]; show 1 + k < 6; omega)
        have e1 : ((1 : Int) + (k : Int)) = ((1 + k : Nat) : Int) := by omega
        have e0 : ((L2 : Int) + 1) = ((L2 + 1 : Nat) : Int) := by omega
        refine ⟨_, rfl, _, _, rfl, rfl, ?_⟩
        refine ⟨_, rfl, _, rfl, _, _, rfl, rfl, _, rfl, ?_⟩
        by_cases hb : bound < L2 + 1
        · refine ifY (by omega) ⟨_, rfl, ?_⟩
          have hm := mod_lt (ds.getD (1 + k) 0 : Nat) (s := bound) (by omega)
          refine ⟨_, rfl, _, rfl, _, _, rfl, rfl, a, _, _, _, rfl, rfl, SqL.of hrow, (by have h := atI_nat (vN_at hd1); rw [← e1] at h; exact h), .inl ⟨_, rfl, _, rfl, _, _, rfl, rfl, by omega, ?_⟩⟩
          refine ⟨_, rfl, _, rfl, _, _, rfl, rfl, ?_⟩
          refine ⟨_, rfl, .inl ⟨rfl, _, SqL.of hN4⟩, _, rfl, _, rfl, _, _, rfl, rfl, ?_⟩
          refine ⟨N, _, _, rfl, rfl, hN4, by rw [vN_len, hnl, sizeLine_eq]; omega, ?_⟩
          have em : (((ds.getD (1 + k) 0 : Nat) : Int) % ((bound : Nat) : Int)) = ((((ds.getD (1 + k) 0 : Nat) : Int) % ((bound : Nat) : Int)).toNat : Int) := by rw [Int.toNat_of_nonneg (Int.emod_nonneg _ (by omega))]
          generalize (((ds.getD (1 + k) 0 : Nat) : Int) % ((bound : Nat) : Int)).toNat = m at hm em
          refine ⟨L2 - m, some (.int k), some (.int (bound : Nat)), some (.int m), nums ++ [m + lift], ?_, Same.then_set s6 hN, ?_, by rw [List.length_append, hnl]; rfl, ?_, ?_⟩
          · dsimp only
            try rw [e0]
            rw [em, show ((L2 : Int) - (m : Int)) = ((L2 - m : Nat) : Int) by omega]
            rfl
          · rw [upd_same, vN_snoc]
            dsimp only
            try rw [e0]
            rw [em, Int.natCast_add]
          · intro z hz'
            rcases List.mem_append.mp hz' with h | h
            · exact hnums z h
            · rw [List.mem_singleton.mp h]
              omega
          · rw [List.sum_append, Nat.mul_succ]
            have : [m + lift].sum = m + lift := by simp
            omega
        · refine ifN (by omega) ?_
          have hm := mod_lt (ds.getD (1 + k) 0 : Nat) (s := (L2 + 1)) (by omega)
          refine ⟨_, rfl, _, rfl, _, _, rfl, rfl, a, _, _, _, rfl, rfl, SqL.of hrow, (by have h := atI_nat (vN_at hd1); rw [← e1] at h; exact h), .inl ⟨_, rfl, _, rfl, _, _, rfl, rfl, by omega, ?_⟩⟩
          refine ⟨_, rfl, _, rfl, _, _, rfl, rfl, ?_⟩
          refine ⟨_, rfl, .inl ⟨rfl, _, SqL.of hN4⟩, _, rfl, _, rfl, _, _, rfl, rfl, ?_⟩
          refine ⟨N, _, _, rfl, rfl, hN4, by rw [vN_len, hnl, sizeLine_eq]; omega, ?_⟩
          have em : (((ds.getD (1 + k) 0 : Nat) : Int) % (((L2 + 1) : Nat) : Int)) = ((((ds.getD (1 + k) 0 : Nat) : Int) % (((L2 + 1) : Nat) : Int)).toNat : Int) := by rw [Int.toNat_of_nonneg (Int.emod_nonneg _ (by omega))]
          generalize (((ds.getD (1 + k) 0 : Nat) : Int) % (((L2 + 1) : Nat) : Int)).toNat = m at hm em
          refine ⟨L2 - m, some (.int k), some (.int ((L2 + 1) : Nat)), some (.int m), nums ++ [m + lift], ?_, Same.then_set s6 hN, ?_, by rw [List.length_append, hnl]; rfl, ?_, ?_⟩
          · dsimp only
            try rw [e0]
            rw [em, show ((L2 : Int) - (m : Int)) = ((L2 - m : Nat) : Int) by omega]
            rfl
          · rw [upd_same, vN_snoc]
            dsimp only
            try rw [e0]
            rw [em, Int.natCast_add]
          · intro z hz'
            rcases List.mem_append.mp hz' with h | h
            · exact hnums z h
            · rw [List.mem_singleton.mp h]
              omega
          · rw [List.sum_append, Nat.mul_succ]
            have : [m + lift].sum = m + lift := by simp
            omega
      · rintro σ H4 ⟨L2, v6, v13, v14, nums, rfl, s6, hN4, hnl, hnums, hL2⟩
        obtain ⟨ini, la, rfl⟩ : ∃ ini la, nums = ini ++ [la] := by
          have hne : nums ≠ [] := fun z => by rw [z] at hnl; cases hnl
          exact ⟨nums.dropLast, nums.getLast hne, (List.dropLast_concat_getLast hne).symm⟩
        have hla := hnums la (List.mem_append_right _ (List.mem_singleton.mpr rfl))
        rw [List.sum_append] at hL2
        rw [List.length_append] at hnl
        have hla1 : [la].sum = la := by simp
        have hla2 : [la].length = 1 := rfl
        refine ⟨_, rfl, .inl ⟨rfl, _, SqL.of hN4⟩, ?_⟩
        refine ⟨N, _, .int la, rfl, rfl, hN4, ?_, _, rfl, _, _, rfl, rfl, ?_⟩
        · rw [vN_len, vN_snoc, List.length_append]
          show (vN ini ++ [V.int la])[ini.length + 1 - 1]? = _
          rw [Nat.add_sub_cancel, List.getElem?_append_right (by rw [vN_len]; exact Nat.le_refl _), vN_len, Nat.sub_self]
          rfl
        have edl : (vN (ini ++ [la])).dropLast = vN ini := by rw [vN_snoc, List.dropLast_concat]
        rw [edl]
        have s7 : Same H3 (upd H4 N (.lst (vN ini))) := Same.then_set s6 hN
        have hN5 : upd H4 N (.lst (vN ini)) N = some (.lst (vN ini)) := upd_same
        generalize upd H4 N (.lst (vN ini)) = H5 at s7 hN5
        have s47 := s4.trans s7
        have hD5 := s47 _ _ hD3
        have eg : ((la : Int) - (lift : Int)) = ((la - lift : Nat) : Int) := by omega
        dsimp only
        rw [eg]
        refine ⟨_, rfl, .inl ⟨rfl, _, SqL.of hD5⟩, ?_⟩
        refine ⟨_, rfl, _, rfl, _, rfl, (by show 3 ≤ sizeLine; rw [sizeLine_eq]; decide), fun e he => ?_⟩
        have s8 : Same H5 (upd H5 e (.tup [.ref y, .ref N, .int (la - lift : Nat)])) := Same.new he
        have hD6 := s8 _ _ hD5
        have hND : N ≠ D2 := fun z => by subst z; rw [s4 _ _ hD3] at hN; cases hN
        refine ⟨D2, _, _, rfl, rfl, hD6, by rw [List.length_map, ec.1, hrl, sizeLine_eq]; omega, ?_⟩
        refine ⟨L2, _, _, _, _, _, _, _, cs ++ [e], rs ++ [⟨lotF (ds.getD 0 0) n, ini, la - lift⟩], rfl, Same.then_set (s3.trans (s47.trans s8)) hD2, by rw [upd_same, List.map_append]; rfl, ?_, by rw [List.length_append, hrl]; rfl, ?_, ?_⟩
        · exact (ec.imp fun _ _ z => RcLD.push (s47.trans s8) hD6 z).snoc (RcLD.push (Same.refl _) hD6 ⟨y, N, upd_same, s8 _ _ (s7 _ _ hy), s8 _ _ hN5, hND⟩)
        · intro r hr'
          rcases List.mem_append.mp hr' with h | h
          · exact okr r h
          · rw [List.mem_singleton.mp h]
            exact ⟨lotF_asc _ n, by show ini.length = (lotF (ds.getD 0 0) n).length; unfold lenR at hnl; omega⟩
        · rw [List.map_append, List.sum_append, take_snoc hds, sumR_snoc, Nat.mul_add]
          have en : ([(⟨lotF (ds.getD 0 0) n, ini, la - lift⟩ : Rc)].map nOf).sum = ini.sum + (la - lift) := by
            show nOf _ + 0 = _
            rfl
          rw [en]
          rw [Nat.mul_succ] at hL2
          omega
    · rintro σ H' ⟨L, v6, v9, v11, v12, v13, v14, v15, cs, rs, rfl, s3, hD3, ec, hrl, okr, hsumr⟩
      rw [List.length_map, hbl] at hrl
      rw [List.length_map, eb.1, List.take_length] at hsumr
      exact ⟨_, rfl, kk D2 H' rs (s12.trans s3) (Same.free s12 hD2) ⟨cs, hD3, ec.imp fun _ _ z => z.rcl⟩ hrl okr (by omega)⟩
end
end Dl

namespace Dl
open PySem PySem.Spec PyProof.Rows L2
/-! ### sums and products of fractions -/
def sm {α : Type} (l : List α) (f : α → Rat) : Rat := (l.map f).sum
def pd {α : Type} (l : List α) (f : α → Rat) : Rat := (l.map f).prod
theorem sm_nil {α : Type} (f : α → Rat) : sm [] f = 0 := rfl
theorem sm_cons {α : Type} (a : α) (l : List α) (f : α → Rat) : sm (a :: l) f = f a + sm l f := rfl
theorem pd_nil {α : Type} (f : α → Rat) : pd [] f = 1 := rfl
theorem pd_cons {α : Type} (a : α) (l : List α) (f : α → Rat) : pd (a :: l) f = f a * pd l f := rfl
theorem sm_append {α : Type} (l m : List α) (f : α → Rat) : sm (l ++ m) f = sm l f + sm m f := by
  induction l with
  | nil => rw [List.nil_append, sm_nil]; grind
  | cons a l ih => rw [List.cons_append, sm_cons, ih, sm_cons]; grind
theorem pd_append {α : Type} (l m : List α) (f : α → Rat) : pd (l ++ m) f = pd l f * pd m f := by
  induction l with
  | nil => rw [List.nil_append, pd_nil]; grind
  | cons a l ih => rw [List.cons_append, pd_cons, ih, pd_cons]; grind
theorem sm_add {α : Type} (l : List α) (f g : α → Rat) : sm l (fun a => f a + g a) = sm l f + sm l g := by
  induction l with
  | nil => rw [sm_nil, sm_nil, sm_nil]; grind
  | cons a l ih => rw [sm_cons, ih, sm_cons, sm_cons]; grind
theorem sm_mul {α : Type} (l : List α) (c : Rat) (f : α → Rat) : sm l (fun a => c * f a) = c * sm l f := by
  induction l with
  | nil => rw [sm_nil, sm_nil]; grind
  | cons a l ih => rw [sm_cons, ih, sm_cons]; grind
theorem sm_zero {α : Type} (l : List α) : sm l (fun _ => 0) = 0 := by
  induction l with
  | nil => rfl
  | cons a l ih => rw [sm_cons, ih]; grind
theorem sm_congr {α : Type} {l : List α} {f g : α → Rat} (h : ∀ a ∈ l, f a = g a) : sm l f = sm l g := by
  unfold sm
  rw [List.map_congr_left h]
theorem pd_congr {α : Type} {l : List α} {f g : α → Rat} (h : ∀ a ∈ l, f a = g a) : pd l f = pd l g := by
  unfold pd
  rw [List.map_congr_left h]
theorem sm_comm {α β : Type} (l : List α) (m : List β) (h : α → β → Rat) : sm l (fun a => sm m (fun b => h a b)) = sm m (fun b => sm l (fun a => h a b)) := by
  induction l with
  | nil =>
    rw [sm_nil]
    exact (sm_zero m).symm
  | cons a l ih =>
    rw [sm_cons, ih, ← sm_add]
    rfl
theorem pd_mul {α : Type} (l : List α) (f g : α → Rat) : pd l (fun a => f a * g a) = pd l f * pd l g := by
  induction l with
  | nil => rw [pd_nil, pd_nil, pd_nil]; grind
  | cons a l ih => rw [pd_cons, ih, pd_cons, pd_cons]; grind
theorem pd_pos {α : Type} {l : List α} {f : α → Rat} (h : ∀ a ∈ l, 0 < f a) : 0 < pd l f := by
  induction l with
  | nil => rw [pd_nil]; decide
  | cons a l ih =>
    rw [pd_cons]
    exact Rat.mul_pos (h a List.mem_cons_self) (ih fun b hb => h b (List.mem_cons_of_mem _ hb))
/-- numbers with the average 1 have a product of at most 1 -/
theorem amgm : ∀ (n : Nat) (xs : List Rat) (c : Rat), xs.length = n → 0 ≤ c → (∀ x ∈ xs, 0 ≤ x) → c + sm xs id = 1 + (n : Rat) → c * pd xs id ≤ 1 := by
  intro n
  induction n with
  | zero =>
    intro xs c hl hc hx hs
    rw [List.length_eq_zero_iff.mp hl] at hs ⊢
    rw [sm_nil] at hs
    rw [pd_nil]
    grind
  | succ n ih =>
    intro xs c hl hc hx hs
    have some_ge : ∀ l : List Rat, (∀ x ∈ l, x < 1) → l ≠ [] → sm l id < (l.length : Rat) := by
      intro l
      induction l with
      | nil => intro _ h; exact absurd rfl h
      | cons a l ih2 =>
        intro h _
        have h1 := h a List.mem_cons_self
        rw [sm_cons, List.length_cons]
        by_cases hn : l = []
        · subst hn
          rw [sm_nil]
          simp
          grind
        · have h2 := ih2 (fun x hx => h x (List.mem_cons_of_mem _ hx)) hn
          have e : ((l.length + 1 : Nat) : Rat) = (l.length : Rat) + 1 := by simp
          rw [e]
          show a + sm l id < _
          grind
    have some_le : ∀ l : List Rat, (∀ x ∈ l, 1 < x) → l ≠ [] → (l.length : Rat) < sm l id := by
      intro l
      induction l with
      | nil => intro _ h; exact absurd rfl h
      | cons a l ih2 =>
        intro h _
        have h1 := h a List.mem_cons_self
        rw [sm_cons, List.length_cons]
        by_cases hn : l = []
        · subst hn
          rw [sm_nil]
          simp
          grind
        · have h2 := ih2 (fun x hx => h x (List.mem_cons_of_mem _ hx)) hn
          have e : ((l.length + 1 : Nat) : Rat) = (l.length : Rat) + 1 := by simp
          rw [e]
          show _ < a + sm l id
          grind
    have hne : xs ≠ [] := fun z => by rw [z] at hl; cases hl
    have en : ((n + 1 : Nat) : Rat) = (n : Rat) + 1 := by simp
    obtain ⟨x, hxm, hx1⟩ : ∃ x ∈ xs, (c - 1) * (x - 1) ≤ 0 ∧ 0 ≤ c + x - 1 := by
      by_cases hc1 : c ≤ 1
      · by_cases he : ∃ x ∈ xs, 1 ≤ x
        · obtain ⟨x, hm, h1⟩ := he
          refine ⟨x, hm, ?_, by grind⟩
          have := Rat.mul_nonneg (show (0 : Rat) ≤ 1 - c by grind) (show (0 : Rat) ≤ x - 1 by grind)
          grind
        · have h2 := some_ge xs (fun x hx => by
            have : ¬ 1 ≤ x := fun z => he ⟨x, hx, z⟩
            grind) hne
          rw [hl, en] at h2
          rw [en] at hs
          grind
      · by_cases he : ∃ x ∈ xs, x ≤ 1
        · obtain ⟨x, hm, h1⟩ := he
          have h0 := hx x hm
          refine ⟨x, hm, ?_, by grind⟩
          have := Rat.mul_nonneg (show (0 : Rat) ≤ c - 1 by grind) (show (0 : Rat) ≤ 1 - x by grind)
          grind
        · have h2 := some_le xs (fun x hx => by
            have : ¬ x ≤ 1 := fun z => he ⟨x, hx, z⟩
            grind) hne
          rw [hl, en] at h2
          rw [en] at hs
          grind
    obtain ⟨l, r, rfl⟩ := List.append_of_mem hxm
    rw [sm_append, sm_cons] at hs
    rw [pd_append, pd_cons]
    have hlen : (l ++ r).length = n := by
      rw [List.length_append] at hl ⊢
      rw [List.length_cons] at hl
      omega
    have h3 := ih (l ++ r) (c + x - 1) hlen hx1.2 (fun y hy => hx y (by
      rcases List.mem_append.mp hy with h | h
      · exact List.mem_append_left _ h
      · exact List.mem_append_right _ (List.mem_cons_of_mem _ h))) (by
      rw [sm_append]
      rw [en] at hs
      have : (id x : Rat) = x := rfl
      grind)
    rw [pd_append] at h3
    have hp : 0 ≤ pd l id * pd r id := by
      have nn : ∀ m : List Rat, (∀ y ∈ m, 0 ≤ y) → 0 ≤ pd m id := by
        intro m
        induction m with
        | nil => intro _; rw [pd_nil]; decide
        | cons a m ih2 =>
          intro h
          rw [pd_cons]
          exact Rat.mul_nonneg (h a List.mem_cons_self) (ih2 fun b hb => h b (List.mem_cons_of_mem _ hb))
      exact Rat.mul_nonneg (nn l fun y hy => hx y (List.mem_append_left _ hy)) (nn r fun y hy => hx y (List.mem_append_right _ (List.mem_cons_of_mem _ hy)))
    have h4 : c * x ≤ c + x - 1 := by grind
    have h5 : (pd l id * pd r id) * (c * x) ≤ (pd l id * pd r id) * (c + x - 1) := Rat.mul_le_mul_of_nonneg_left h4 hp
    have : (id x : Rat) = x := rfl
    grind
end Dl

namespace Dl
open PySem PySem.Spec PyProof.Rows L2
theorem sm_flat {α β : Type} (l : List α) (g : α → List β) (f : β → Rat) : sm (l.flatMap g) f = sm l (fun a => sm (g a) f) := by
  induction l with
  | nil => rfl
  | cons a l ih => rw [List.flatMap_cons, sm_append, ih, sm_cons]
theorem pd_flat {α β : Type} (l : List α) (g : α → List β) (f : β → Rat) : pd (l.flatMap g) f = pd l (fun a => pd (g a) f) := by
  induction l with
  | nil => rfl
  | cons a l ih => rw [List.flatMap_cons, pd_append, ih, pd_cons]
theorem sm_rep {α : Type} (c : Nat) (x : α) (f : α → Rat) : sm (List.replicate c x) f = (c : Rat) * f x := by
  induction c with
  | zero => rw [List.replicate_zero, sm_nil]; simp
  | succ c ih =>
    rw [List.replicate_succ, sm_cons, ih]
    have : ((c + 1 : Nat) : Rat) = (c : Rat) + 1 := by simp
    rw [this]
    grind
theorem pd_rep {α : Type} (c : Nat) (x : α) (f : α → Rat) : pd (List.replicate c x) f = f x ^ c := by
  induction c with
  | zero => rw [List.replicate_zero, pd_nil, Rat.pow_zero]
  | succ c ih =>
    rw [List.replicate_succ, pd_cons, ih, Rat.pow_succ]
    grind
theorem pow_mulQ (x y : Rat) (c : Nat) : (x * y) ^ c = x ^ c * y ^ c := by
  induction c with
  | zero => rw [Rat.pow_zero, Rat.pow_zero, Rat.pow_zero]; grind
  | succ c ih => rw [Rat.pow_succ, ih, Rat.pow_succ, Rat.pow_succ]; grind
theorem pow_posQ {x : Rat} (h : 0 < x) (c : Nat) : 0 < x ^ c := by
  induction c with
  | zero => rw [Rat.pow_zero]; decide
  | succ c ih => rw [Rat.pow_succ]; exact Rat.mul_pos ih h
theorem div_posQ {a b : Rat} (h1 : 0 < a) (h2 : 0 < b) : 0 < a / b := by
  have e : a / b * b = a := by
    have : b ≠ 0 := by grind
    grind
  by_cases h : 0 < a / b
  · exact h
  · have h3 : 0 ≤ -(a / b) := by grind
    have h4 := Rat.mul_nonneg h3 (Rat.le_of_lt h2)
    grind
theorem len_sm {α : Type} (l : List α) : (l.length : Rat) = sm l (fun _ => 1) := by
  induction l with
  | nil => rfl
  | cons a l ih =>
    rw [List.length_cons, sm_cons, ← ih]
    have : ((l.length + 1 : Nat) : Rat) = (l.length : Rat) + 1 := by simp
    rw [this]
    grind
def tau (V : Nat → Rat) (lot : List Nat) : Rat := 1 + sm lot V
def topV (V : Nat → Rat) (rs : List Rc) : Rat := pd rs fun r => pd (r.lot.zip r.sold) fun ic => V ic.1 ^ ic.2
def botV (V : Nat → Rat) (rs : List Rc) : Rat := pd rs fun r => tau V r.lot ^ nOf r
def lookV (V : Nat → Rat) (rs : List Rc) (i : Nat) : Rat := sm rs fun r => if i ∈ r.lot then (nOf r : Rat) / tau V r.lot else 0
/-- a sum over the first n things of those in the lot is a sum over the lot -/
theorem sm_mem (f : Nat → Rat) (n : Nat) : ∀ lot : List Nat, lot.Nodup → (∀ i ∈ lot, i < n) → sm (List.range n) (fun j => if j ∈ lot then f j else 0) = sm lot f := by
  have key : ∀ (z : Nat) (lot : List Nat), z ∉ lot → ∀ m, sm (List.range m) (fun j => if j ∈ z :: lot then f j else 0) = sm (List.range m) (fun j => if j ∈ lot then f j else 0) + (if z < m then f z else 0) := by
    intro z lot hz m
    induction m with
    | zero => rw [List.range_zero, sm_nil, sm_nil]; simp; grind
    | succ m ih =>
      rw [List.range_succ, sm_append, sm_append, ih, sm_cons, sm_nil, sm_cons, sm_nil]
      by_cases e : z = m
      · subst e
        simp [hz]
        grind
      · have h1 : m ∈ z :: lot ↔ m ∈ lot := by simp; intro e2; exact absurd e2.symm e
        have h2 : (z < m + 1) ↔ z < m := by omega
        simp only [h1, h2]
        grind
  intro lot
  induction lot with
  | nil =>
    intro _ _
    rw [sm_congr (g := fun _ => 0) (fun a _ => if_neg (by simp)), sm_zero]
    rfl
  | cons z r ih =>
    intro hd hlt
    rw [key z r (List.nodup_cons.mp hd).1 n, ih (List.nodup_cons.mp hd).2 fun i hi => hlt i (List.mem_cons_of_mem _ hi), if_pos (hlt z List.mem_cons_self), sm_cons]
    grind
/-- a sum over a record's places, thing by thing -/
theorem sm_zip (g : Nat → Rat) (n : Nat) : ∀ (lot sold : List Nat), (∀ i ∈ lot, i < n) → sm (lot.zip sold) (fun ic => (ic.2 : Rat) * g ic.1) = sm (List.range n) (fun i => ((((lot.zip sold).map fun p => if p.1 = i then p.2 else 0).sum : Nat) : Rat) * g i) := by
  intro lot
  induction lot with
  | nil =>
    intro sold _
    rw [List.zip_nil_left, sm_nil, sm_congr (g := fun _ => 0) (fun a _ => by simp), sm_zero]
  | cons x l ih =>
    intro sold hlt
    cases sold with
    | nil => rw [List.zip_nil_right, sm_nil, sm_congr (g := fun _ => 0) (fun a _ => by simp), sm_zero]
    | cons y s =>
      rw [List.zip_cons_cons, sm_cons, ih s fun i hi => hlt i (List.mem_cons_of_mem _ hi)]
      have one : sm (List.range n) (fun i => if i ∈ [x] then (y : Rat) * g i else 0) = (y : Rat) * g x := by
        rw [sm_mem (fun i => (y : Rat) * g i) n [x] (by simp) (fun i hi => by rw [List.mem_singleton.mp hi]; exact hlt x List.mem_cons_self), sm_cons, sm_nil]
        grind
      rw [← one, ← sm_add]
      refine sm_congr fun i _ => ?_
      rw [List.map_cons, List.sum_cons]
      by_cases e : x = i
      · subst e
        simp
        grind
      · have h1 : ¬ i = x := fun z => e z.symm
        simp [e, h1]
        grind
theorem sold_sm (rs : List Rc) (i : Nat) : (soldOf rs i : Rat) = sm rs (fun r => (cnt i r : Rat)) := by
  unfold soldOf
  induction rs with
  | nil => rfl
  | cons r rs ih =>
    rw [List.map_cons, List.sum_cons, sm_cons, ← ih]
    simp
theorem tau_pos {n : Nat} {V : Nat → Rat} (p : ∀ i, i < n → 0 < V i) {lot : List Nat} (h : ∀ i ∈ lot, i < n) : 0 < tau V lot := by
  unfold tau
  have : 0 ≤ sm lot V := by
    induction lot with
    | nil => rw [sm_nil]; decide
    | cons x l ih =>
      rw [sm_cons]
      have h1 := p x (h x List.mem_cons_self)
      have h2 := ih fun i hi => h i (List.mem_cons_of_mem _ hi)
      grind
  grind
theorem swap_look {n : Nat} {rs : List Rc} (ok : ∀ r ∈ rs, RcOk n r) (V U : Nat → Rat) : sm (List.range n) (fun i => U i * lookV V rs i) = sm rs (fun r => ((nOf r : Rat) / tau V r.lot) * sm r.lot U) := by
  unfold lookV
  rw [sm_congr (g := fun i => sm rs fun r => U i * (if i ∈ r.lot then (nOf r : Rat) / tau V r.lot else 0)) (fun i _ => (sm_mul _ _ _).symm), sm_comm]
  refine sm_congr fun r hr => ?_
  rw [← sm_mem U n r.lot (ok r hr).asc.nodup (ok r hr).asc.lt, ← sm_mul]
  refine sm_congr fun i _ => ?_
  by_cases h : i ∈ r.lot
  · rw [if_pos h, if_pos h]; grind
  · rw [if_neg h, if_neg h]; grind
theorem core {n : Nat} {rs : List Rc} {V V' : Nat → Rat} (ok : ∀ r ∈ rs, RcOk n r) (p : ∀ i, i < n → 0 < V i) (p' : ∀ i, i < n → 0 < V' i) (eq : ∀ i, i < n → V' i * lookV V rs i = (soldOf rs i : Rat)) : topV V rs * botV V' rs ≤ topV V' rs * botV V rs := by
  have tp : ∀ r ∈ rs, 0 < tau V r.lot := fun r hr => tau_pos p (ok r hr).asc.lt
  have tp' : ∀ r ∈ rs, 0 < tau V' r.lot := fun r hr => tau_pos p' (ok r hr).asc.lt
  have hin : ∀ r ∈ rs, ∀ ic ∈ r.lot.zip r.sold, ic.1 < n := fun r hr ic hic => (ok r hr).asc.lt _ (List.of_mem_zip hic).1
  -- the numbers
  obtain ⟨xs, exs⟩ : ∃ xs : List Rat, xs = rs.flatMap fun r => ((r.lot.zip r.sold).flatMap fun ic => List.replicate ic.2 (V ic.1 / V' ic.1)) ++ List.replicate (nOf r) (tau V' r.lot / tau V r.lot) := ⟨_, rfl⟩
  have hx : ∀ x ∈ xs, 0 ≤ x := by
    intro x hx
    rw [exs] at hx
    obtain ⟨r, hr, hx⟩ := List.mem_flatMap.mp hx
    rcases List.mem_append.mp hx with h | h
    · obtain ⟨ic, hic, h⟩ := List.mem_flatMap.mp h
      rw [(List.mem_replicate.mp h).2]
      have h1 := p _ (hin r hr ic hic)
      have h2 := p' _ (hin r hr ic hic)
      exact Rat.le_of_lt (div_posQ h1 h2)
    · rw [(List.mem_replicate.mp h).2]
      exact Rat.le_of_lt (div_posQ (tp' r hr) (tp r hr))
  have hpd : pd xs id = pd rs (fun r => pd (r.lot.zip r.sold) (fun ic => (V ic.1 / V' ic.1) ^ ic.2) * (tau V' r.lot / tau V r.lot) ^ nOf r) := by
    rw [exs, pd_flat]
    refine pd_congr fun r hr => ?_
    rw [pd_append, pd_flat, pd_rep]
    congr 1
    exact pd_congr fun ic _ => pd_rep _ _ _
  have hsm : sm xs id = sm rs (fun r => sm (r.lot.zip r.sold) (fun ic => (ic.2 : Rat) * (V ic.1 / V' ic.1)) + (nOf r : Rat) * (tau V' r.lot / tau V r.lot)) := by
    rw [exs, sm_flat]
    refine sm_congr fun r hr => ?_
    rw [sm_append, sm_flat, sm_rep]
    congr 1
    exact sm_congr fun ic _ => sm_rep _ _ _
  have hlen : (xs.length : Rat) = sm rs (fun r => sm (r.lot.zip r.sold) (fun ic => (ic.2 : Rat) * 1) + (nOf r : Rat) * 1) := by
    rw [len_sm, exs, sm_flat]
    refine sm_congr fun r hr => ?_
    rw [sm_append, sm_flat, sm_rep]
    congr 1
    exact sm_congr fun ic _ => sm_rep _ _ _
  -- the sum
  have byThing : ∀ g : Nat → Rat, sm rs (fun r => sm (r.lot.zip r.sold) (fun ic => (ic.2 : Rat) * g ic.1)) = sm (List.range n) (fun i => g i * (soldOf rs i : Rat)) := by
    intro g
    rw [sm_congr (g := fun r => sm (List.range n) (fun i => (cnt i r : Rat) * g i)) (fun r hr => sm_zip g n r.lot r.sold (ok r hr).asc.lt), ← sm_comm]
    refine sm_congr fun i _ => ?_
    rw [sold_sm, ← sm_mul]
    exact sm_congr fun r _ => by grind
  have hA : sm rs (fun r => sm (r.lot.zip r.sold) (fun ic => (ic.2 : Rat) * (V ic.1 / V' ic.1))) = sm rs (fun r => ((nOf r : Rat) / tau V r.lot) * sm r.lot V) := by
    rw [byThing (fun i => V i / V' i), ← swap_look ok V V]
    refine sm_congr fun i hi => ?_
    have hin := List.mem_range.mp hi
    rw [← eq i hin]
    have h2 := p' i hin
    have h3 : V' i ≠ 0 := by grind
    grind
  have hC : sm rs (fun r => sm (r.lot.zip r.sold) (fun ic => (ic.2 : Rat) * 1)) = sm rs (fun r => ((nOf r : Rat) / tau V r.lot) * sm r.lot V') := by
    rw [byThing (fun _ => 1), ← swap_look ok V V']
    refine sm_congr fun i hi => ?_
    rw [eq i (List.mem_range.mp hi)]
    grind
  have htot : sm xs id = (xs.length : Rat) := by
    rw [hsm, hlen, sm_add, sm_add, hA, hC, ← sm_add, ← sm_add]
    refine sm_congr fun r hr => ?_
    have h1 := tp r hr
    have h3 : tau V r.lot ≠ 0 := by grind
    have e1 : tau V r.lot = 1 + sm r.lot V := rfl
    have e2 : tau V' r.lot = 1 + sm r.lot V' := rfl
    rw [e2]
    generalize sm r.lot V' = B at *
    generalize sm r.lot V = A at *
    generalize tau V r.lot = t at *
    grind
  have h1 := amgm xs.length xs 1 rfl (by decide) hx (by rw [htot])
  -- the product
  have hprod : pd xs id * (topV V' rs * botV V rs) = topV V rs * botV V' rs := by
    rw [hpd]
    unfold topV botV
    rw [← pd_mul, ← pd_mul, ← pd_mul]
    refine pd_congr fun r hr => ?_
    have h2 := tp r hr
    have h3 : tau V r.lot ≠ 0 := by grind
    have e1 : (tau V' r.lot / tau V r.lot) ^ nOf r * tau V r.lot ^ nOf r = tau V' r.lot ^ nOf r := by
      rw [← pow_mulQ]
      congr 1
      grind
    have e2 : pd (r.lot.zip r.sold) (fun ic => (V ic.1 / V' ic.1) ^ ic.2) * pd (r.lot.zip r.sold) (fun ic => V' ic.1 ^ ic.2) = pd (r.lot.zip r.sold) (fun ic => V ic.1 ^ ic.2) := by
      rw [← pd_mul]
      refine pd_congr fun ic hic => ?_
      have h4 := p' _ (hin r hr ic hic)
      have h5 : V' ic.1 ≠ 0 := by grind
      rw [← pow_mulQ]
      congr 1
      grind
    rw [← e1, ← e2]
    grind
  have hpos : 0 ≤ topV V' rs * botV V rs := by
    refine Rat.le_of_lt (Rat.mul_pos (pd_pos fun r hr => pd_pos fun ic hic => pow_posQ (p' _ (hin r hr ic hic)) _) (pd_pos fun r hr => pow_posQ (tp r hr) _))
  rw [← hprod]
  have h2 := Rat.mul_le_mul_of_nonneg_left (show pd xs id ≤ 1 by grind) hpos
  grind
end Dl

namespace Dl
open PySem PySem.Spec PyProof.Rows L2
/-! ### from whole numbers to fractions -/
def VV (ws : List Nat) (a : Nat) (i : Nat) : Rat := (ws.getD i 0 : Rat) / (a : Rat)
theorem sum_smQ (l : List Nat) (f : Nat → Nat) : ((l.map f).sum : Rat) = sm l (fun i => (f i : Rat)) := by
  induction l with
  | nil => rfl
  | cons x l ih =>
    rw [List.map_cons, List.sum_cons, sm_cons, ← ih]
    simp
theorem pow_addQ (x : Rat) (m n : Nat) : x ^ (m + n) = x ^ m * x ^ n := by
  induction n with
  | zero => rw [Nat.add_zero, Rat.pow_zero]; grind
  | succ n ih => rw [Nat.add_succ, Rat.pow_succ, ih, Rat.pow_succ]; grind
theorem mul_cancelQ {x y z : Rat} (h : x * z = y * z) (hz : z ≠ 0) : x = y := by
  have h1 : x * z * z⁻¹ = y * z * z⁻¹ := by rw [h]
  have h2 : z * z⁻¹ = 1 := Rat.mul_inv_cancel z hz
  rw [Rat.mul_assoc, Rat.mul_assoc, h2, Rat.mul_one, Rat.mul_one] at h1
  exact h1
theorem castQ {a : Nat} (h : 1 ≤ a) : (0 : Rat) < (a : Rat) := by
  have : (0 : Rat) < ((a : Nat) : Rat) := Rat.natCast_pos.mpr h
  exact this
theorem tot_tau {ws : List Nat} {a : Nat} (ha : 1 ≤ a) (lot : List Nat) : (tot ws a lot : Rat) = (a : Rat) * tau (VV ws a) lot := by
  have h := castQ ha
  have h0 : (a : Rat) ≠ 0 := by grind
  unfold tot tau
  have e : (a : Rat) * sm lot (VV ws a) = sm lot (fun i => (ws.getD i 0 : Rat)) := by
    rw [← sm_mul]
    refine sm_congr fun i _ => ?_
    unfold VV
    grind
  rw [Rat.natCast_add, sum_smQ, ← e]
  grind
theorem pw_V {ws : List Nat} {a : Nat} (ha : 1 ≤ a) (r : Rc) : (pw (fac ws a r) : Rat) = (a : Rat) ^ cn (fac ws a r) * pd (r.lot.zip r.sold) (fun ic => VV ws a ic.1 ^ ic.2) := by
  have h := castQ ha
  have h0 : (a : Rat) ≠ 0 := by grind
  unfold fac
  rw [pw_snoc, cn_snoc, Rat.natCast_mul, Rat.natCast_pow]
  have key : ∀ z : List (Nat × Nat), (pw (z.map fun ic => (ws.getD ic.1 0, ic.2)) : Rat) = (a : Rat) ^ cn (z.map fun ic => (ws.getD ic.1 0, ic.2)) * pd z (fun ic => VV ws a ic.1 ^ ic.2) := by
    intro z
    induction z with
    | nil =>
      rw [pd_nil]
      show ((1 : Nat) : Rat) = (a : Rat) ^ 0 * 1
      rw [Rat.pow_zero]
      grind
    | cons x z ih =>
      have e1 : pw ((x :: z).map fun ic => (ws.getD ic.1 0, ic.2)) = ws.getD x.1 0 ^ x.2 * pw (z.map fun ic => (ws.getD ic.1 0, ic.2)) := rfl
      have e2 : cn ((x :: z).map fun ic => (ws.getD ic.1 0, ic.2)) = x.2 + cn (z.map fun ic => (ws.getD ic.1 0, ic.2)) := rfl
      rw [e1, e2, pd_cons, Rat.natCast_mul, Rat.natCast_pow, ih, pow_addQ]
      have e3 : ((ws.getD x.1 0 : Nat) : Rat) ^ x.2 = (a : Rat) ^ x.2 * VV ws a x.1 ^ x.2 := by
        rw [← pow_mulQ]
        congr 1
        unfold VV
        grind
      rw [e3]
      grind
  rw [key, pow_addQ]
  grind
theorem chTop_V {ws : List Nat} {a : Nat} (ha : 1 ≤ a) (rs : List Rc) : (chTop ws a rs : Rat) = (a : Rat) ^ chCn ws a rs * topV (VV ws a) rs := by
  unfold topV
  induction rs with
  | nil =>
    rw [pd_nil]
    show ((1 : Nat) : Rat) = (a : Rat) ^ 0 * 1
    rw [Rat.pow_zero]
    grind
  | cons r rs ih =>
    have e1 : chTop ws a (r :: rs) = pw (fac ws a r) * chTop ws a rs := rfl
    have e2 : chCn ws a (r :: rs) = cn (fac ws a r) + chCn ws a rs := rfl
    rw [e1, e2, pd_cons, Rat.natCast_mul, ih, pw_V ha, pow_addQ]
    grind
theorem chBot_V {n : Nat} {ws : List Nat} {a : Nat} (ha : 1 ≤ a) {rs : List Rc} (ok : ∀ r ∈ rs, RcOk n r) : (chBot ws a rs : Rat) = (a : Rat) ^ chCn ws a rs * botV (VV ws a) rs := by
  unfold botV
  induction rs with
  | nil =>
    rw [pd_nil]
    show ((1 : Nat) : Rat) = (a : Rat) ^ 0 * 1
    rw [Rat.pow_zero]
    grind
  | cons r rs ih =>
    have e1 : chBot ws a (r :: rs) = tot ws a r.lot ^ cn (fac ws a r) * chBot ws a rs := rfl
    have e2 : chCn ws a (r :: rs) = cn (fac ws a r) + chCn ws a rs := rfl
    rw [e1, e2, pd_cons, Rat.natCast_mul, ih (fun r hr => ok r (List.mem_cons_of_mem _ hr)), Rat.natCast_pow, tot_tau ha, pow_mulQ, pow_addQ, cn_fac (ok r List.mem_cons_self)]
    grind
theorem look_V {ws : List Nat} {a : Nat} (ha : 1 ≤ a) (i : Nat) (rs : List Rc) (tp : ∀ r ∈ rs, 0 < tau (VV ws a) r.lot) : ((look ws a i rs).1 : Rat) * (a : Rat) = ((look ws a i rs).2 : Rat) * lookV (VV ws a) rs i := by
  refine list_snoc_ind (Pr := fun rs => (∀ r ∈ rs, 0 < tau (VV ws a) r.lot) → ((look ws a i rs).1 : Rat) * (a : Rat) = ((look ws a i rs).2 : Rat) * lookV (VV ws a) rs i) (fun _ => ?_) (fun rs r ih tp => ?_) rs tp
  · show ((0 : Nat) : Rat) * _ = _ * 0
    have : ((0 : Nat) : Rat) = 0 := rfl
    grind
  · have h := ih fun r hr => tp r (List.mem_append_left _ hr)
    have ht := tp r (List.mem_append_right _ (List.mem_singleton.mpr rfl))
    have ht0 : tau (VV ws a) r.lot ≠ 0 := by grind
    rw [look_snoc]
    have e : lookV (VV ws a) (rs ++ [r]) i = lookV (VV ws a) rs i + (if i ∈ r.lot then (nOf r : Rat) / tau (VV ws a) r.lot else 0) := by
      unfold lookV
      rw [sm_append, sm_cons, sm_nil]
      grind
    rw [e]
    by_cases hm : i ∈ r.lot
    · rw [if_pos hm, if_pos hm]
      show (((look ws a i rs).1 * tot ws a r.lot + nOf r * (look ws a i rs).2 : Nat) : Rat) * (a : Rat) = (((look ws a i rs).2 * tot ws a r.lot : Nat) : Rat) * _
      rw [Rat.natCast_add, Rat.natCast_mul, Rat.natCast_mul, Rat.natCast_mul, tot_tau ha]
      generalize tau (VV ws a) r.lot = t at *
      generalize lookV (VV ws a) rs i = q at *
      have e3 : (nOf r : Rat) / t * t = nOf r := by grind
      generalize (nOf r : Rat) / t = u at *
      grind
    · rw [if_neg hm, if_neg hm, h]
      grind
theorem mem_shown {n i : Nat} {rs : List Rc} : i ∈ shown n rs ↔ i < n ∧ ∃ r ∈ rs, i ∈ r.lot := by
  unfold shown
  rw [List.mem_filter, List.mem_range, List.any_eq_true]
  refine and_congr_right fun _ => ⟨fun ⟨r, h1, h2⟩ => ⟨r, h1, of_decide_eq_true h2⟩, fun ⟨r, h1, h2⟩ => ⟨r, h1, decide_eq_true h2⟩⟩
theorem VV_pos {ws : List Nat} {a : Nat} (pos : Pos1 ws a) {i : Nat} (hi : i < ws.length) : 0 < VV ws a i := by
  unfold VV
  have h : 1 ≤ ws.getD i 0 := pos.2 _ (List.mem_of_getElem? (getD_at hi))
  exact div_posQ (castQ h) (castQ pos.1)
theorem alike_eq {rs : List Rc} {ws : List Nat} {a : Nat} {ws' : List Nat} {a' : Nat} (ok : ∀ r ∈ rs, RcOk ws.length r) (pos : Pos1 ws a) (pos' : Pos1 ws' a') (al : Alike (wtL ws a rs (shown ws.length rs)) a ws' a') {i : Nat} (hi : i < ws.length) : VV ws' a' i * lookV (VV ws a) rs i = (soldOf rs i : Rat) := by
  by_cases hs : i ∈ shown ws.length rs
  · have h1 := al.2 i _ _ (by rw [wtL_get hi, if_pos hs])
    have tp : ∀ r ∈ rs, 0 < tau (VV ws a) r.lot := fun r hr => tau_pos (fun j hj => VV_pos pos hj) (ok r hr).asc.lt
    have h2 := look_V pos.1 i rs tp
    have h3 := castQ (look_d0 (ws := ws) pos.1 i rs)
    have h4 := castQ pos'.1
    have h5 := congrArg (fun n : Nat => (n : Rat)) h1
    simp only [Rat.natCast_mul] at h5
    show (ws'.getD i 0 : Rat) / (a' : Rat) * lookV (VV ws a) rs i = _
    have h6 : (a' : Rat) ≠ 0 := by grind
    have h7 : ((look ws a i rs).2 : Rat) ≠ 0 := by grind
    generalize lookV (VV ws a) rs i = q at *
    generalize ((look ws a i rs).2 : Rat) = d at *
    generalize ((look ws a i rs).1 : Rat) = m at *
    generalize (ws'.getD i 0 : Rat) = x at *
    generalize (soldOf rs i : Rat) = z at *
    generalize (a' : Rat) = b at *
    generalize (a : Rat) = c at *
    have e1 : x / b * b = x := by grind
    generalize x / b = u at *
    have e2 : u * q * (d * b) = z * (d * b) := by grind
    have e3 : 0 < d * b := Rat.mul_pos h3 h4
    have e4 : d * b ≠ 0 := by grind
    exact mul_cancelQ e2 e4
  · have hno : ∀ r ∈ rs, ¬ i ∈ r.lot := fun r hr hm => hs (mem_shown.mpr ⟨hi, r, hr, hm⟩)
    have e1 : lookV (VV ws a) rs i = 0 := by
      unfold lookV
      rw [sm_congr (g := fun _ => 0) (fun r hr => if_neg (hno r hr)), sm_zero]
    have e2 : (soldOf rs i : Rat) = 0 := by
      rw [sold_sm, sm_congr (g := fun _ => 0) (fun r hr => by rw [cnt_zero (hno r hr)]; rfl), sm_zero]
    rw [e1, e2]
    grind
theorem one_less {rs : List Rc} {ws : List Nat} {a : Nat} {ws' : List Nat} {a' : Nat} (ok : ∀ r ∈ rs, RcOk ws.length r) (ok' : ∀ r ∈ rs, RcOk ws'.length r) (pos : Pos1 ws a) (pos' : Pos1 ws' a') (h : topV (VV ws a) rs * botV (VV ws' a') rs ≤ topV (VV ws' a') rs * botV (VV ws a) rs) :
    chTop ws a rs * chBot ws' a' rs ≤ chTop ws' a' rs * chBot ws a rs := by
  have key : ((chTop ws a rs * chBot ws' a' rs : Nat) : Rat) ≤ ((chTop ws' a' rs * chBot ws a rs : Nat) : Rat) := by
    rw [Rat.natCast_mul, Rat.natCast_mul, chTop_V pos.1, chTop_V pos'.1, chBot_V pos.1 ok, chBot_V pos'.1 ok']
    have h1 := pow_posQ (castQ pos.1) (chCn ws a rs)
    have h2 := pow_posQ (castQ pos'.1) (chCn ws' a' rs)
    have h3 := Rat.mul_le_mul_of_nonneg_left h (Rat.le_of_lt (Rat.mul_pos h1 h2))
    grind
  exact Rat.natCast_le_natCast.mp key
theorem Divd.VV {ws : List Nat} {a : Nat} {ws' : List Nat} {a' : Nat} (h : Divd ws a ws' a') (pos' : Pos1 ws' a') : VV ws a = VV ws' a' := by
  obtain ⟨g, hg, e1, e2⟩ := h
  funext i
  unfold Dl.VV
  have e3 : ws.getD i 0 = g * ws'.getD i 0 := by
    rw [e2, List.getD_eq_getElem?_getD, List.getD_eq_getElem?_getD, List.getElem?_map]
    cases ws'[i]? <;> simp
  rw [e3, e1, Rat.natCast_mul, Rat.natCast_mul]
  have h1 := castQ hg
  have h2 := castQ pos'.1
  have h3 : (g : Rat) ≠ 0 := by grind
  have h4 : (a' : Rat) ≠ 0 := by grind
  grind
theorem steps_less {rs : List Rc} {ws : List Nat} {a : Nat} (si : Situ ws.length rs) (pos : Pos1 ws a) : ∀ (n : Nat) (ws' : List Nat) (a' : Nat), Steps rs n ws a ws' a' → ws'.length = ws.length → Pos1 ws' a' → chTop ws a rs * chBot ws' a' rs ≤ chTop ws' a' rs * chBot ws a rs := by
  intro n
  induction n with
  | zero =>
    intro ws' a' st len pos'
    have e := Divd.VV st pos'
    refine one_less si.ok (by rw [len]; exact si.ok) pos pos' ?_
    rw [e]
    exact Rat.le_refl
  | succ n ih =>
    intro ws' a' st len pos'
    obtain ⟨w1, a1, s1, p1, l1, al⟩ := st
    have h1 := ih w1 a1 s1 l1 p1
    have ok1 : ∀ r ∈ rs, RcOk w1.length r := by rw [l1]; exact si.ok
    have ok' : ∀ r ∈ rs, RcOk ws'.length r := by rw [len]; exact si.ok
    have h2 := one_less ok1 ok' p1 pos' (core ok1 (fun i hi => VV_pos p1 hi) (fun i hi => VV_pos pos' (by rw [len, ← l1]; exact hi)) fun i hi => alike_eq ok1 p1 pos' al hi)
    have hb := chBot_pos (ws := w1) p1.1 rs
    have h3 := Nat.mul_le_mul_right (chBot ws' a' rs) h1
    have h4 := Nat.mul_le_mul_left (chBot ws a rs) h2
    refine Nat.le_of_mul_le_mul_right (c := chBot w1 a1 rs) ?_ hb
    generalize chTop ws a rs = A at *
    generalize chBot ws a rs = b at *
    generalize chTop w1 a1 rs = A1 at *
    generalize chBot w1 a1 rs = b1 at *
    generalize chTop ws' a' rs = A2 at *
    generalize chBot ws' a' rs = b2 at *
    have e1 : A * b2 * b1 = A * b1 * b2 := by grind
    have e2 : A1 * b * b2 = b * (A1 * b2) := by grind
    have e3 : A2 * b * b1 = b * (A2 * b1) := by grind
    omega
theorem steps_len {rs : List Rc} : ∀ {n : Nat} {ws : List Nat} {a : Nat} {ws' : List Nat} {a' : Nat}, Steps rs n ws a ws' a' → ws'.length = ws.length := by
  intro n ws a ws' a' st
  cases n with
  | zero => exact Divd.len st
  | succ n =>
    obtain ⟨w1, a1, _, _, l1, al⟩ := st
    rw [al.1, wtL_len, l1]
theorem never_less {rs : List Rc} {n : Nat} {ws : List Nat} {a : Nat} {ws' : List Nat} {a' : Nat} (si : Situ ws.length rs) (pos : Pos1 ws a) (st : Steps rs n ws a ws' a') (pos' : Pos1 ws' a') : chTop ws a rs * chBot ws' a' rs ≤ chTop ws' a' rs * chBot ws a rs :=
  steps_less si pos n ws' a' st (steps_len st) pos'
/-! ### the records with the things that were sold -/
theorem zip_range {lot sold : List Nat} (h : sold.length = lot.length) : lot.zip sold = (List.range lot.length).map fun j => (lot.getD j 0, sold.getD j 0) := by
  apply List.ext_getElem?
  intro j
  by_cases hj : j < lot.length
  · rw [zip_get (getD_at hj) (getD_at (by omega)), List.getElem?_map, List.getElem?_range hj]
    rfl
  · rw [List.getElem?_eq_none (by rw [List.length_zip]; omega), List.getElem?_eq_none (by rw [List.length_map, List.length_range]; omega)]
theorem keep_zip (rs : List Rc) (r : Rc) : (keepR rs r).lot.zip (keepR rs r).sold = (placesR rs r).map fun j => (r.lot.getD j 0, r.sold.getD j 0) := by
  unfold keepR
  exact List.zip_map'
theorem sum_filter_zero {l : List Nat} {p : Nat → Bool} {f : Nat → Nat} (h : ∀ j ∈ l, p j = false → f j = 0) : ((l.filter p).map f).sum = (l.map f).sum := by
  induction l with
  | nil => rfl
  | cons x l ih =>
    have h2 := ih fun j hj => h j (List.mem_cons_of_mem _ hj)
    rw [List.filter_cons]
    cases hp : p x with
    | true =>
      rw [if_pos rfl, List.map_cons, List.sum_cons, List.map_cons, List.sum_cons, h2]
    | false =>
      rw [if_neg Bool.false_ne_true, h2, List.map_cons, List.sum_cons, h x List.mem_cons_self hp]
      omega
theorem sum_filter_le (l : List Nat) (p : Nat → Bool) (f : Nat → Nat) : ((l.filter p).map f).sum ≤ (l.map f).sum := by
  induction l with
  | nil => exact Nat.le_refl _
  | cons x l ih =>
    rw [List.filter_cons]
    cases p x with
    | true =>
      rw [if_pos rfl, List.map_cons, List.sum_cons, List.map_cons, List.sum_cons]
      omega
    | false =>
      rw [if_neg Bool.false_ne_true, List.map_cons, List.sum_cons]
      omega
theorem cnt_keep {n : Nat} {rs : List Rc} {r : Rc} (ok : RcOk n r) {i : Nat} (hi : 0 < soldOf rs i) : cnt i (keepR rs r) = cnt i r := by
  unfold cnt
  rw [keep_zip, zip_range ok.len, List.map_map, List.map_map]
  unfold placesR
  refine sum_filter_zero fun j _ hp => ?_
  have h0 : ¬ 0 < soldOf rs (r.lot.getD j 0) := of_decide_eq_false hp
  show (if r.lot.getD j 0 = i then r.sold.getD j 0 else 0) = 0
  rw [if_neg fun z => h0 (by rw [z]; exact hi)]
theorem sold_range {l : List Nat} : (List.range l.length).map (fun j => l.getD j 0) = l := by
  apply List.ext_getElem?
  intro j
  by_cases hj : j < l.length
  · rw [List.getElem?_map, List.getElem?_range hj, getD_at hj]
    rfl
  · rw [List.getElem?_eq_none (by rw [List.length_map, List.length_range]; omega), List.getElem?_eq_none (by omega)]
theorem kept_situ {n : Nat} {rs : List Rc} (hn : n ≤ 4) (hl : rs.length ≤ 4) (ok : ∀ r ∈ rs, RcOk n r) (few : (rs.map nOf).sum ≤ 24) : Situ n (rs.map (keepR rs)) := by
  have hpl : ∀ r, ∀ j ∈ placesR rs r, j < r.lot.length ∧ 0 < soldOf rs (r.lot.getD j 0) := fun r j hj => by
    have h := List.mem_filter.mp hj
    exact ⟨List.mem_range.mp h.1, of_decide_eq_true h.2⟩
  refine ⟨hn, by rw [List.length_map]; exact hl, fun r' hr' => ?_, ?_, fun i hi => ?_⟩
  · obtain ⟨r, hr, rfl⟩ := List.mem_map.mp hr'
    have okr := ok r hr
    refine ⟨⟨?_, fun i hi => ?_⟩, ?_⟩
    · show ((placesR rs r).map fun i => r.lot.getD i 0).Pairwise (· < ·)
      rw [List.pairwise_map]
      have hp : (placesR rs r).Pairwise (· < ·) := List.Pairwise.filter _ List.pairwise_lt_range
      refine hp.imp_of_mem fun {x y} hx hy hxy => ?_
      have h1 := (hpl r x hx).1
      have h2 := (hpl r y hy).1
      have := List.pairwise_iff_getElem.mp okr.asc.up x y h1 h2 hxy
      rw [List.getD_eq_getElem?_getD, List.getElem?_eq_getElem h1, List.getD_eq_getElem?_getD, List.getElem?_eq_getElem h2]
      exact this
    · obtain ⟨j, hj, rfl⟩ := List.mem_map.mp hi
      exact okr.asc.lt _ (List.mem_of_getElem? (getD_at (hpl r j hj).1))
    · show ((placesR rs r).map fun i => r.sold.getD i 0).length = ((placesR rs r).map fun i => r.lot.getD i 0).length
      rw [List.length_map, List.length_map]
  · refine Nat.le_trans ?_ few
    rw [List.map_map]
    have key : ∀ l : List Rc, (∀ r ∈ l, r ∈ rs) → (l.map (nOf ∘ keepR rs)).sum ≤ (l.map nOf).sum := by
      intro l
      induction l with
      | nil => intro _; exact Nat.le_refl _
      | cons r l ih =>
        intro h
        have h1 := ih fun x hx => h x (List.mem_cons_of_mem _ hx)
        have okr := ok r (h r List.mem_cons_self)
        rw [List.map_cons, List.sum_cons, List.map_cons, List.sum_cons]
        have h2 : nOf (keepR rs r) ≤ nOf r := by
          show ((placesR rs r).map fun i => r.sold.getD i 0).sum + r.gone ≤ r.sold.sum + r.gone
          have h3 := sum_filter_le (List.range r.lot.length) (fun i => decide (0 < soldOf rs (r.lot.getD i 0))) (fun i => r.sold.getD i 0)
          have h4 : ((List.range r.lot.length).map fun i => r.sold.getD i 0) = r.sold := by
            rw [← okr.len]
            exact sold_range
          rw [h4] at h3
          unfold placesR
          omega
        have : (nOf ∘ keepR rs) r = nOf (keepR rs r) := rfl
        omega
    exact key rs fun _ h => h
  · obtain ⟨_, r', hr', hm⟩ := mem_shown.mp hi
    obtain ⟨r, hr, rfl⟩ := List.mem_map.mp hr'
    obtain ⟨j, hj, rfl⟩ := List.mem_map.mp hm
    have hpos := (hpl r j hj).2
    have e : soldOf (rs.map (keepR rs)) (r.lot.getD j 0) = soldOf rs (r.lot.getD j 0) := by
      unfold soldOf at *
      rw [List.map_map]
      congr 1
      exact List.map_congr_left fun x hx => cnt_keep (ok x hx) hpos
    rw [e]
    exact hpos
end Dl

namespace Dl
open PySem PySem.Spec PyProof.Rows L2
structure HasL (P : Program) (w : World) (K : PySem.W.Frag) (mg : Str → Option Value) (base : Heap) (W S : Addr) : Prop where
  ex : ∃ (f : Addr) (fd : FuncData), mg "learned" = some (.ref f) ∧ PySem.W.keepIn K (.ref f) = true ∧ KBn K fd ["rule", "book", "rounds"] 2 ["rounds"] (fun us ws => us ++ ws) (fun vs zs => vs ++ zs) ∧ FnOk P w K mg base CX0 45 f fd ["rule", "book", "rounds"] (spLearned W S)
def spLaw (K : PySem.W.Frag) : Sp := fun vs H Q _ => ∃ (l : Addr) (zs : List Int), vs = [.ref l] ∧ SqL K H l (zs.map V.int) ∧ (∀ z ∈ zs, Cp z) ∧ ∀ H', Q (.bl true) H'
theorem ite_cases {c A B : Prop} [Decidable c] (a : c → A) (b : ¬ c → B) : if decide c = true then A else B := by
  by_cases h : c
  · exact ifY h (a h)
  · exact ifN h (b h)
theorem split_end {es : List Nat} {n : Nat} (h : es.length = n + 1) : ∃ ws a, es = ws ++ [a] ∧ ws.length = n := by
  have hne : es ≠ [] := fun z => by rw [z] at h; cases h
  exact ⟨es.dropLast, es.getLast hne, (List.dropLast_concat_getLast hne).symm, by rw [List.length_dropLast, h]; rfl⟩
theorem row_ok {ws : List Nat} {a k : Nat} (h : ∀ z ∈ ws ++ [a], 1 ≤ z ∧ z < 2 ^ k) : Pos1 ws a ∧ Bits k ws a :=
  ⟨⟨(h a (List.mem_append_right _ (List.mem_singleton.mpr rfl))).1, fun w hw => (h w (List.mem_append_left _ hw)).1⟩, ⟨(h a (List.mem_append_right _ (List.mem_singleton.mpr rfl))).2, fun w hw => (h w (List.mem_append_left _ hw)).2⟩⟩
theorem tup0 (x y : V) : atI [x, y] 0 = some x := rfl
theorem tup1 (x y : V) : atI [x, y] 1 = some y := rfl
theorem cut_to (ws : List Nat) (a : Nat) : cutV (vN (ws ++ [a])) none (some (ws.length : Nat)) = vN ws := by
  unfold cutV
  rw [HT.sIx_none, HT.sIx_nat, vN_len, List.length_append]
  have e1 : min ws.length (ws.length + [a].length) = ws.length := by omega
  rw [e1, Nat.sub_zero, List.drop_zero, vN_snoc, List.take_append_of_le_length (by rw [vN_len]; exact Nat.le_refl _)]
  exact List.take_of_length_le (by rw [vN_len]; exact Nat.le_refl _)
theorem five {ds : List Nat} (h : Below [5, 5, 4, 3, 2] ds) : ∃ d0 d1 d2 d3 d4, ds = [d0, d1, d2, d3, d4] ∧ d0 < 5 ∧ d1 < 5 ∧ d2 < 4 ∧ d3 < 3 ∧ d4 < 2 := by
  obtain ⟨hl, hb⟩ := h
  match ds, hl with
  | [d0, d1, d2, d3, d4], _ => exact ⟨d0, d1, d2, d3, d4, rfl, hb 0 _ _ rfl rfl, hb 1 _ _ rfl rfl, hb 2 _ _ rfl rfl, hb 3 _ _ rfl rfl, hb 4 _ _ rfl rfl⟩
section
variable {P : Program} {w : World} {K : PySem.W.Frag} {mg : Str → Option Value} {base : Heap} {R W S D : Addr}
abbrev s_law : Stmt := tops 48
abbrev N_law : List Str := ["_law_script", "_law_drawn", "_law_many", "_law_turns", "_law_row_here", "_law_number", "_law_lift", "_law_records_here", "_law_rule", "_law_book_here", "_law_after", "_law_numbers", "_law_early", "_law_late"]
theorem sc_law : FnScope N_law ["_law_script"] (defScope s_law) := ⟨rfl, rfl, rfl, by decide +kernel, rfl, by decide +kernel, by decide +kernel⟩
-- slots: 0 _law_script, 1 _law_drawn, 2 _law_many, 3 _law_turns, 4 _law_row_here, 5 _law_number, 6 _law_lift, 7 _law_records_here, 8 _law_rule, 9 _law_book_here, 10 _law_after, 11 _law_numbers, 12 _law_early, 13 _law_late
theorem ok_law {f : Addr} {fd : FuncData} (T : Tx K mg R W S) (h_law_cell : Has P w K mg base 1 "_law_cell" ["_law_script", "_law_place"] [] (spCell K)) (h_law_draws : Has P w K mg base 33 "_law_draws" ["_law_cell_here", "_law_sizes"] [] spDraws) (h_law_row : Has P w K mg base 34 "_law_row" ["_law_cell_here", "_law_count"] [] spRow) (h_law_ups : Has P w K mg base 1 "_law_ups" ["_law_row_here"] [] spUps)
    (h_law_records : Has P w K mg base 34 "_law_records" ["_law_script", "_law_place", "_law_many", "_law_count", "_law_lift", "_law_bound"] [] (spRecords K)) (h_law_sold_ones : Has P w K mg base 2 "_law_sold_ones" ["_law_records_here"] [] spKept) (hW : HasC P w K mg base 2 "Weighted" W ["self", "weights", "aside"] [] (spWInit W))
    (h_law_book : Has P w K mg base 5 "_law_book" ["_law_many", "_law_records_here"] [] (spLawBook S)) (hL : HasL P w K mg base W S) (h_law_numbers_of : Has P w K mg base 2 "_law_numbers_of" ["_law_rule", "_law_many"] [] (spNumbers W)) (h_law_chance : Has P w K mg base 1 "_law_chance" ["_law_numbers", "_law_records_here", "_law_many"] [] spChance)
    (h_likelihood : Has P w K mg base 46 "likelihood" ["rule", "book"] [] (spLik R W S)) (h_law_same : Has P w K mg base 2 "_law_same" ["_law_x", "_law_top", "_law_bottom"] [] (spSame R)) (h_law_same_lot : Has P w K mg base 2 "_law_same_lot" ["_law_x", "_law_due"] [] (spSameLot K)) (h_law_holds : Has P w K mg base 7 "_law_holds" ["_law_book_here", "_law_due"] [] (spHolds S))
    (F : Fun K "law" "law" s_law f fd) : FnOk P w K mg base CX0 47 f fd ["_law_script"] (spLaw K) := by
  refine F.ok sc_law (fun vs H Q E h => ?_) (fun cdv A outer s H vs Q E hr h => ?_)
  · obtain ⟨l, zs, rfl, _⟩ := h
    rfl
  · obtain ⟨l, zs, rfl, hl, hz, kk⟩ := h
    obtain ⟨fl, fdl, hmg, hkp, hkb, hfl⟩ := hL.ex
    obtain ⟨tD, pD, hD⟩ : ∃ tD, PSs (cxOf CX0 P w K mg base N_law "law" (defScope s_law) f cdv A outer s H E).nox ((defBody s_law).drop 16) tD ∧ ∀ (H14 : Hp) (v1 v3 v5 v6 v11 : Option V) (d0 : Nat) (LR LK PR PB PA PE PL : Addr) (ws ws' : List Nat) (a a' X1 X2 X3 X4 : Nat) (rs : List Rc), ws.length = d0 → ws'.length = d0 → Situ ws.length rs → Pos1 ws a → Pos1 ws' a' → (∀ r ∈ rs, tot ws a r.lot < 2 ^ 10000) → (∀ r ∈ rs, tot ws' a' r.lot < 2 ^ 10000) →
        chTop ws a rs = X1 → chBot ws a rs = X2 → chTop ws' a' rs = X3 → chBot ws' a' rs = X4 → Cp (X1 : Nat) → Cp (X2 : Nat) → Cp (X3 : Nat) → Cp (X4 : Nat) → H14 LR = some (.lst (vN (ws ++ [a]))) → LstOf RcL H14 LK rs → WtdAt W H14 PR ws a → BookAt S H14 PB ws.length rs → WtdAt W H14 PA ws' a' → H14 PE = some (.tup [.int X1, .int X2]) → H14 PL = some (.tup [.int X3, .int X4]) →
        tD { nx := fun _ H' => Q .non H', rt := Q } [some (.ref l), v1, some (.int d0), v3, some (.ref LR), v5, v6, some (.ref LK), some (.ref PR), some (.ref PB), some (.ref PA), v11, some (.ref PE), some (.ref PL)] H14 := by
      refine ⟨_, (pss_cons (ps_if (pt_not (pt_val (pe_callH h_law_same (hr.mono (by decide)) rfl (pa_cons (pe_callH h_likelihood (hr.mono (by decide)) rfl (pa_cons (pv 8) (pa_cons (pv 9) pa_nil))) (pa_cons (pe_ix ix_tup (pv 12) pe_int (fun _ _ => rfl)) (pa_cons (pe_ix ix_tup (pv 12) pe_int (fun _ _ => rfl)) pa_nil)))))) (pss_one (ps_ret pe_bl)) pss_nil)
    (pss_cons (ps_if (pt_not (pt_val (pe_callH h_law_same (hr.mono (by decide)) rfl (pa_cons (pe_callH h_likelihood (hr.mono (by decide)) rfl (pa_cons (pv 10) (pa_cons (pv 9) pa_nil))) (pa_cons (pe_ix ix_tup (pv 13) pe_int (fun _ _ => rfl)) (pa_cons (pe_ix ix_tup (pv 13) pe_int (fun _ _ => rfl)) pa_nil)))))) (pss_one (ps_ret pe_bl)) pss_nil)
    (pss_cons (ps_if (PW.pt (pw_or (pt_not (pt_val (pe_callH h_law_same_lot (hr.mono (by decide)) rfl (pa_cons (pe_fld (pv 8) rfl) (pa_cons (pe_slice sl_list (pv 4) po_none (po_some (pv 2))) pa_nil))))) (pw_or1 (pt_not (pt_val (pe_callH h_law_same_lot (hr.mono (by decide)) rfl (pa_cons (pe_tup (pa_cons (pe_fld (pv 8) rfl) pa_nil)) (pa_cons (pe_tup (pa_cons (pe_ix ix_list (pv 4) (pv 2) (fun _ _ => rfl)) pa_nil)) pa_nil)))))))) (pss_one (ps_ret pe_bl)) pss_nil)
    (pss_one (ps_ret (pe_callH h_law_holds (hr.mono (by decide)) rfl (pa_cons (pv 9) (pa_cons (pv 7) pa_nil)))))))), ?_⟩
      intro H14 v1 v3 v5 v6 v11 d0 LR LK PR PB PA PE PL ws ws' a a' X1 X2 X3 X4 rs hwl hlen' si pos pos' big big' hX1 hX2 hX3 hX4 c1 c2 c3 c4 hLR14 lrs14 wPR14 bPB14 wPA14 hPE14 hPL
      have hws4 := si.n4
      have len' : ws'.length = ws.length := by omega
      have si' : Situ ws'.length rs := by rw [len']; exact si
      have ecut : cutV (vN (ws ++ [a])) none (some (d0 : Nat)) = vN ws := by rw [← hwl]; exact cut_to ws a
      have hna : atI (vN (ws ++ [a])) (d0 : Nat) = some (.int (a : Nat)) := atI_nat (vN_at (by rw [List.getElem?_append_right (by omega), hwl, Nat.sub_self]; rfl))
      refine ⟨_, rfl, _, rfl, PR, PB, ws, a, rs, rfl, wPR14, bPB14, pos.1, hws4, si.rs4, si.ok, si.few, big, fun x1 H15 t1 e1 s15' nx1 rx1 hb1' q1 => ?_⟩
      obtain ⟨f1, g1, g2⟩ := q1
      rw [hX1, hX2] at f1
      have hPE15 := s15' _ _ hPE14
      refine ⟨_, rfl, PE, _, _, _, rfl, rfl, SqT.of hPE15, tup0 _ _, _, rfl, PE, _, _, _, rfl, rfl, SqT.of hPE15, tup1 _ _, x1, t1, e1, _, _, rfl, rx1, hb1', f1, g1, g2, c1, c2, true, rfl, iteF ?_⟩
      refine ⟨_, rfl, _, rfl, PA, PB, ws', a', rs, rfl, wPA14.same s15', (by rw [len']; exact bPB14.same s15'), pos'.1, by omega, si'.rs4, si'.ok, si'.few, big', fun x2 H16 t2 e2 s16 nx2 rx2 hb2' q2 => ?_⟩
      obtain ⟨f2, g3, g4⟩ := q2
      rw [hX3, hX4] at f2
      have hPL16 := (s15'.trans s16) _ _ hPL
      refine ⟨_, rfl, PL, _, _, _, rfl, rfl, SqT.of hPL16, tup0 _ _, _, rfl, PL, _, _, _, rfl, rfl, SqT.of hPL16, tup1 _ _, x2, t2, e2, _, _, rfl, rx2, hb2', f2, g3, g4, c3, c4, true, rfl, iteF ?_⟩
      have s1416 := s15'.trans s16
      obtain ⟨dr, lw, hPR, hlw⟩ := wPR14.same s1416
      have hLR16 := s1416 _ _ hLR14
      refine ⟨_, rfl, PR, W, dr, _, _, rfl, hPR, T.clW, T.wWei, wf_weights _ _ _, _, rfl, _, rfl, d0, rfl, LR, _, rfl, SqL.of hLR16, fun Z2 hZ2 => ?_⟩
      rw [ecut]
      have s17 : Same H16 (upd H16 Z2 (.lst (vN ws))) := Same.new hZ2
      have hZ17 : upd H16 Z2 (.lst (vN ws)) Z2 = some (.lst (vN ws)) := upd_same
      refine ⟨lw, Z2, ws, rfl, s17 _ _ hlw, .inl hZ17, by omega, true, rfl, iteF ?_⟩
      generalize upd H16 Z2 (.lst (vN ws)) = H17 at s17 hZ17
      refine ⟨_, rfl, PR, W, dr, _, _, rfl, s17 _ _ hPR, T.clW, T.wAs, wf_aside _ _ _, (by show 1 ≤ sizeLine; rw [sizeLine_eq]; decide), fun u1 hu1 => ?_⟩
      have s18 : Same H17 (upd H17 u1 (.tup (vN [a]))) := Same.new hu1
      refine ⟨_, rfl, _, rfl, LR, _, _, _, rfl, rfl, SqL.of (s18 _ _ (s17 _ _ hLR16)), hna, (by show 1 ≤ sizeLine; rw [sizeLine_eq]; decide), fun u2 hu2 => ?_⟩
      have s19 : Same (upd H17 u1 (.tup (vN [a]))) (upd (upd H17 u1 (.tup (vN [a]))) u2 (.tup (vN [a]))) := Same.new hu2
      refine ⟨u1, u2, [a], rfl, s19 _ _ upd_same, .inr upd_same, (by show 1 ≤ 1000; decide), true, rfl, iteF ?_⟩
      have s1219 := s1416.trans (s17.trans (s18.trans s19))
      refine ⟨_, rfl, _, rfl, PB, LK, ws.length, rs, rfl, bPB14.same (s1416.trans (s17.trans (s18.trans s19))), lrs14.same (fun a r z => RcL.same s1219 z) s1219, by have := si.rs4; omega, by omega, si.ok, fun H' _ => kk H'⟩
    obtain ⟨tC, pC, hC⟩ : ∃ tC, PSs (cxOf CX0 P w K mg base N_law "law" (defScope s_law) f cdv A outer s H E).nox ((defBody s_law).drop 13) tC ∧ ∀ (H12 : Hp) (v1 v3 v5 v6 v12 v13 : Option V) (d0 n : Nat) (LR LK PR PB PA LN : Addr) (ws ws' : List Nat) (a a' : Nat) (rs : List Rc), ws.length = d0 → ws'.length = d0 → Situ ws.length rs → Pos1 ws a → Pos1 ws' a' → (∀ r ∈ rs, tot ws a r.lot < 2 ^ 10000) → (∀ r ∈ rs, tot ws' a' r.lot < 2 ^ 10000) → Steps rs n ws a ws' a' →
        H12 LR = some (.lst (vN (ws ++ [a]))) → LstOf RcL H12 LK rs → WtdAt W H12 PR ws a → BookAt S H12 PB ws.length rs → WtdAt W H12 PA ws' a' → H12 LN = some (.lst (vN (ws' ++ [a']))) →
        tC { nx := fun _ H' => Q .non H', rt := Q } [some (.ref l), v1, some (.int d0), v3, some (.ref LR), v5, v6, some (.ref LK), some (.ref PR), some (.ref PB), some (.ref PA), some (.ref LN), v12, v13] H12 := by
      refine ⟨_, (pss_cons (ps_set (i := 12) sc_law.nd rfl (Or.inl rfl) (pe_callH h_law_chance (hr.mono (by decide)) rfl (pa_cons (pv 4) (pa_cons (pv 7) (pa_cons (pv 2) pa_nil)))))
    (pss_cons (ps_set (i := 13) sc_law.nd rfl (Or.inl rfl) (pe_callH h_law_chance (hr.mono (by decide)) rfl (pa_cons (pv 11) (pa_cons (pv 7) (pa_cons (pv 2) pa_nil)))))
    (pss_cons (ps_if (pt_cmpR op_lt (pe_op op_mulX (pe_ix ix_tup (pv 13) pe_int (fun _ _ => rfl)) (pe_ix ix_tup (pv 12) pe_int (fun _ _ => rfl))) (pe_op op_mulX (pe_ix ix_tup (pv 12) pe_int (fun _ _ => rfl)) (pe_ix ix_tup (pv 13) pe_int (fun _ _ => rfl))) (nomark _)) (pss_one (ps_ret pe_bl)) pss_nil)
    pD))), ?_⟩
      intro H12 v1 v3 v5 v6 v12 v13 d0 n LR LK PR PB PA LN ws ws' a a' rs hwl hlen' si pos pos' big big' st hLR12 lrs12 wPR bPB wPA hLN
      have hws4 := si.n4
      have len' : ws'.length = ws.length := by omega
      have hge := never_less si pos st pos'
      refine ⟨_, rfl, _, rfl, _, rfl, LR, LK, ws, a, rs, (by rw [hwl]; rfl), hLR12, lrs12, pos.1, hws4, si.rs4, si.ok, si.few, big, fun PE H13 s13 nPE hPE c1 c2 => ?_⟩
      have si' : Situ ws'.length rs := by rw [len']; exact si
      refine ⟨_, rfl, _, rfl, _, rfl, LN, LK, ws', a', rs, (by rw [hlen']; rfl), s13 _ _ hLN, lrs12.same (fun a r z => RcL.same s13 z) s13, pos'.1, by omega, si'.rs4, si'.ok, si'.few, big', fun PL H14 s14' nPL hPL c3 c4 => ?_⟩
      generalize hX1 : chTop ws a rs = X1 at hge hPE c1
      generalize hX2 : chBot ws a rs = X2 at hge hPE c2
      generalize hX3 : chTop ws' a' rs = X3 at hge hPL c3
      generalize hX4 : chBot ws' a' rs = X4 at hge hPL c4
      have hPE14 := s14' _ _ hPE
      refine ⟨_, rfl, PL, _, _, _, rfl, rfl, SqT.of hPL, tup0 _ _, _, rfl, PE, _, _, _, rfl, rfl, SqT.of hPE14, tup1 _ _, _, _, rfl, rfl, mul_cap c3 c2, _, rfl, PE, _, _, _, rfl, rfl, SqT.of hPE14, tup0 _ _, _, rfl, PL, _, _, _, rfl, rfl, SqT.of hPL, tup1 _ _, _, _, rfl, rfl, mul_cap c1 c4, _, _, rfl, rfl, _, rfl, ?_⟩
      refine ifN (by rw [← Int.natCast_mul, ← Int.natCast_mul]; omega) ?_
      have s1314 := s13.trans s14'
      exact hD H14 v1 v3 v5 v6 _ d0 LR LK PR PB PA PE PL ws ws' a a' X1 X2 X3 X4 rs hwl hlen' si pos pos' big big' hX1 hX2 hX3 hX4 c1 c2 c3 c4 (s1314 _ _ hLR12) (lrs12.same (fun a r z => RcL.same s1314 z) s1314) (wPR.same s1314) (bPB.same s1314) (wPA.same s1314) hPE14 hPL
    obtain ⟨tB, pB, hB⟩ : ∃ tB, PSs (cxOf CX0 P w K mg base N_law "law" (defScope s_law) f cdv A outer s H E).nox ((defBody s_law).drop 7) tB ∧ ∀ (H4 : Hp) (v5 v7 v8 v9 v10 v11 v12 v13 : Option V) (LD LR : Addr) (d0 d1 d2 d3 d4 lift k : Nat) (ws : List Nat) (a : Nat), Same H H4 → H4 LD = some (.lst (vN [d0, d1, d2, d3, d4])) → H4 LR = some (.lst (vN (ws ++ [a]))) → d0 < 5 → d1 < 5 → d3 < 3 → d4 < 2 → lift ≤ 1 → ws.length = d0 → Pos1 ws a → Bits k ws a → k ≤ 60 → (∀ i, i < 1 + d4 → gr k i ≤ 600) → gr k (1 + d4) ≤ 9900 →
        tB { nx := fun _ H' => Q .non H', rt := Q } [some (.ref l), some (.ref LD), some (.int d0), some (.int (1 + d4)), some (.ref LR), v5, some (.int lift), v7, v8, v9, v10, v11, v12, v13] H4 := by
      refine ⟨_, (pss_cons (ps_set (i := 7) sc_law.nd rfl (Or.inl rfl) (pe_callH h_law_sold_ones (hr.mono (by decide)) rfl (pa_cons (pe_callH h_law_records (hr.mono (by decide)) rfl (pa_cons (pv 0) (pa_cons pe_int (pa_cons (pv 2) (pa_cons (pe_ix ix_list (pv 1) pe_int (fun _ _ => rfl)) (pa_cons (pv 6) (pa_cons (pe_ix ix_list (pe_lst (pa_cons pe_int (pa_cons pe_int (pa_cons pe_int pa_nil)))) (pe_ix ix_list (pv 1) pe_int (fun _ _ => rfl)) (fun _ _ => rfl)) pa_nil))))))) pa_nil)))
    (pss_cons (ps_set (i := 8) sc_law.nd rfl (Or.inl rfl) (pe_makeH hW (hr.mono (by decide)) rfl (pa_cons (pe_slice sl_list (pv 4) po_none (po_some (pv 2))) (pa_cons (pe_ix ix_list (pv 4) (pv 2) (fun _ _ => rfl)) pa_nil))))
    (pss_cons (ps_set (i := 9) sc_law.nd rfl (Or.inl rfl) (pe_callH h_law_book (hr.mono (by decide)) rfl (pa_cons (pv 2) (pa_cons (pv 7) pa_nil))))
    (pss_cons (ps_set (i := 10) sc_law.nd rfl (Or.inl rfl) (pe_callN (E:=E0) hfl (hr.mono (by decide)) rfl hmg hkp hkb pass0 (pa_cons (pv 8) (pa_cons (pv 9) pa_nil)) (pk_cons (pv 3) pk_nil)))
    (pss_cons (ps_set (i := 11) sc_law.nd rfl (Or.inl rfl) (pe_callH h_law_numbers_of (hr.mono (by decide)) rfl (pa_cons (pv 10) (pa_cons (pv 2) pa_nil))))
    (pss_cons (ps_if (pt_cmpR op_isN (pv 11) pe_non (nomark _)) (pss_one (ps_ret pe_bl)) pss_nil)
    pC)))))), ?_⟩
      intro H4 v5 v7 v8 v9 v10 v11 v12 v13 LD LR d0 d1 d2 d3 d4 lift k ws a s04 hLD hLR b0 b1 b3 b4 hlift hwl pos bits hk60 hk1 hk2
      have at1 : atI (vN [d0, d1, d2, d3, d4]) 1 = some (.int (d1 : Nat)) := atI_nat (j := 1) rfl
      have at3 : atI (vN [d0, d1, d2, d3, d4]) 3 = some (.int (d3 : Nat)) := atI_nat (j := 3) rfl
      refine ⟨_, rfl, _, rfl, _, rfl, LD, _, _, _, rfl, rfl, SqL.of hLD, at1, _, rfl, (by show 3 ≤ sizeLine; rw [sizeLine_eq]; decide), fun L3 hL3 => ?_⟩
      have s5 : Same H4 (upd H4 L3 (.lst (vN [2, 4, 25]))) := Same.new hL3
      have s05 := s04.trans s5
      obtain ⟨bound, hbound, hb1⟩ : ∃ b, [2, 4, 25][d3]? = some b ∧ 1 ≤ b := by
        rcases d3 with _ | _ | _ | d3
        · exact ⟨_, rfl, by decide⟩
        · exact ⟨_, rfl, by decide⟩
        · exact ⟨_, rfl, by decide⟩
        · omega
      have hL35 : upd H4 L3 (.lst (vN [2, 4, 25])) L3 = some (.lst (vN [2, 4, 25])) := upd_same
      have hLD5 := s5 _ _ hLD
      have hLR5 := s5 _ _ hLR
      refine ⟨_, rfl, LD, _, _, _, rfl, rfl, SqL.of hLD5, at3, L3, _, _, _, rfl, rfl, SqL.of hL35, atI_nat (vN_at hbound), ?_⟩
      refine ⟨l, zs, 2, d0, d1, lift, bound, rfl, Same.seq s05 hl, hz, by omega, by omega, hlift, hb1, fun LQ H6 rs0 s6 nLQ lrs0 hrl ok0 few0 => ?_⟩
      refine ⟨LQ, d0, rs0, rfl, lrs0, by omega, ok0, by omega, fun LK H7 s7 nLK lrs => ?_⟩
      have si := kept_situ (n := d0) (rs := rs0) (by omega) (by omega) ok0 few0
      generalize rs0.map (keepR rs0) = rs at si lrs
      rw [← hwl] at si
      have s57 := s6.trans s7
      have s07 := s05.trans s57
      have hLR7 := s57 _ _ hLR5
      refine ⟨_, rfl, _, rfl, d0, rfl, LR, _, rfl, SqL.of hLR7, fun Z hZ => ?_⟩
      have ecut : cutV (vN (ws ++ [a])) none (some (d0 : Nat)) = vN ws := by rw [← hwl]; exact cut_to ws a
      rw [ecut]
      have s8 : Same H7 (upd H7 Z (.lst (vN ws))) := Same.new hZ
      have hZ8 : upd H7 Z (.lst (vN ws)) Z = some (.lst (vN ws)) := upd_same
      generalize upd H7 Z (.lst (vN ws)) = H8 at s8 hZ8
      have hLR8 := s8 _ _ hLR7
      have hna : atI (vN (ws ++ [a])) (d0 : Nat) = some (.int (a : Nat)) := atI_nat (vN_at (by rw [List.getElem?_append_right (by omega), hwl, Nat.sub_self]; rfl))
      refine ⟨_, rfl, _, rfl, LR, _, _, _, rfl, rfl, SqL.of hLR8, hna, ?_⟩
      have hws4 : ws.length ≤ 4 := by omega
      refine wtd_made hZ8 pos (by omega) fun PR H9 s9 nPR wPR => ?_
      have s79 := s8.trans s9
      refine ⟨_, rfl, _, rfl, LK, d0, rs, rfl, lrs.same (fun a r z => RcL.same s79 z) s79, by have := si.rs4; omega, by omega, by rw [← hwl]; exact si.ok, fun PB H10 s10 nPB bPB => ?_⟩
      have hd4 : 1 + d4 ≤ 2 := by omega
      have bPB' : BookAt S H10 PB ws.length rs := by rw [hwl]; exact bPB
      refine ⟨_, rfl, _, rfl, _, rfl, rfl, rfl, PR, PB, ws, a, k, 1 + d4, rs, by rw [Int.natCast_add]; rfl, wPR.same s10, bPB', si, pos, bits, hd4, hk1, fun PA H11 ws' a' s11 nPA wPA hA => ?_⟩
      obtain ⟨st, pos', len', bits'⟩ := hA
      have hlen' : ws'.length = d0 := by rw [len', hwl]
      refine ⟨_, rfl, _, rfl, PA, ws', a', (by rw [hlen']; rfl), wPA, pos', by omega, fun LN H12 ns s12 nLN hLN en => ?_⟩
      subst en
      refine ⟨_, rfl, rfl, _, rfl, ifN (fun z => nomatch z) ?_⟩
      have hlot : ∀ r ∈ rs, r.lot.length ≤ 4 := fun r hr => Nat.le_trans (si.ok r hr).asc.len hws4
      have big : ∀ r ∈ rs, tot ws a r.lot < 2 ^ 10000 := fun r hr => Nat.lt_of_lt_of_le (tot_bits bits (hlot r hr)) (Nat.pow_le_pow_right (by decide) (by omega))
      have big' : ∀ r ∈ rs, tot ws' a' r.lot < 2 ^ 10000 := fun r hr => Nat.lt_of_lt_of_le (tot_bits bits' (hlot r hr)) (Nat.pow_le_pow_right (by decide) (by omega))
      have s1112 := s11.trans s12
      have s1012 := s10.trans s1112
      have s712 := s79.trans s1012
      exact hC H12 _ _ _ _ _ _ d0 (1 + d4) LR LK PR PB PA LN ws ws' a a' rs hwl hlen' si pos pos' big big' st ((s9.trans s1012) _ _ hLR8) (lrs.same (fun a r z => RcL.same s712 z) s712) (wPR.same s1012) (bPB'.same s1112) (wPA.same s12) hLN
    refine ⟨_, (pss_cons (ps_set (i := 1) sc_law.nd rfl (Or.inl rfl) (pe_callH h_law_draws (hr.mono (by decide)) rfl (pa_cons (pe_callH h_law_cell (hr.mono (by decide)) rfl (pa_cons (pv 0) (pa_cons pe_int pa_nil))) (pa_cons (pe_lst (pa_cons pe_int (pa_cons pe_int (pa_cons pe_int (pa_cons pe_int (pa_cons pe_int pa_nil)))))) pa_nil))))
    (pss_cons (ps_set (i := 2) sc_law.nd rfl (Or.inl rfl) (pe_ix ix_list (pv 1) pe_int (fun _ _ => rfl)))
    (pss_cons (ps_set (i := 3) sc_law.nd rfl (Or.inl rfl) (pe_op op_add pe_int (pe_ix ix_list (pv 1) pe_int (fun _ _ => rfl))))
    (pss_cons (ps_set (i := 4) sc_law.nd rfl (Or.inl rfl) (pe_callH h_law_ups (hr.mono (by decide)) rfl (pa_cons (pe_callH h_law_row (hr.mono (by decide)) rfl (pa_cons (pe_callH h_law_cell (hr.mono (by decide)) rfl (pa_cons (pv 0) (pa_cons pe_int pa_nil))) (pa_cons (pe_op op_add (pv 2) pe_int) pa_nil))) pa_nil)))
    (pss_cons (ps_if (pt_cmpR op_eq (pv 3) pe_int (nomark _)) (pss_one (ps_setLc (i := 4) (own := [("_law_number", 5)]) rfl sc_law.nd rfl rfl (sw_true rfl rfl rfl (by decide +kernel)) (pi_list (pv 4)) (blkOk_by (N := N_law) (sc := defScope s_law) (by decide +kernel)) (fun _ _ _ _ _ => (pg_name (i := 5) sc_law.nd rfl (Or.inl rfl) (.inr rfl))) (fun _ _ _ _ _ => pts_nil) (fun _ _ _ _ _ => (pe_op op_add pe_int (pe_op op_mod (pe_callTy call_int1 (by rfl) T.int (by decide +kernel) (pa_cons (pv 5) pa_nil)) (pe_op op_pow pe_int pe_int)))))) pss_nil)
    (pss_cons (ps_set (i := 6) sc_law.nd rfl (Or.inl rfl) pe_int)
    (pss_cons (ps_if (pt_cmpR op_eq (pe_ix ix_list (pv 1) pe_int (fun _ _ => rfl)) pe_int (nomark _)) (pss_one (ps_set (i := 6) sc_law.nd rfl (Or.inl rfl) pe_int)) pss_nil)
    pB))))))), ?_⟩
    refine ⟨_, rfl, l, zs, 0, rfl, hl, hz, fun z0 hz0 => ?_⟩
    refine ⟨(by show 5 ≤ sizeLine; rw [sizeLine_eq]; decide), fun L0 hL0 => ?_⟩
    have s0 : Same H (upd H L0 (.lst (vN [5, 5, 4, 3, 2]))) := Same.new hL0
    refine ⟨L0, z0, [5, 5, 4, 3, 2], rfl, upd_same, by decide, by decide, hz0, fun LD H1 ds s1 nLD hLD be => ?_⟩
    obtain ⟨d0, d1, d2, d3, d4, rfl, b0, b1, b2, b3, b4⟩ := five be
    have s01 := s0.trans s1
    have at0 : atI (vN [d0, d1, d2, d3, d4]) 0 = some (.int (d0 : Nat)) := atI_nat (j := 0) rfl
    have at1 : atI (vN [d0, d1, d2, d3, d4]) 1 = some (.int (d1 : Nat)) := atI_nat (j := 1) rfl
    have at2 : atI (vN [d0, d1, d2, d3, d4]) 2 = some (.int (d2 : Nat)) := atI_nat (j := 2) rfl
    have at3 : atI (vN [d0, d1, d2, d3, d4]) 3 = some (.int (d3 : Nat)) := atI_nat (j := 3) rfl
    have at4 : atI (vN [d0, d1, d2, d3, d4]) 4 = some (.int (d4 : Nat)) := atI_nat (j := 4) rfl
    refine ⟨_, rfl, LD, _, _, _, rfl, rfl, SqL.of hLD, at0, ?_⟩
    refine ⟨_, rfl, LD, _, _, _, rfl, rfl, SqL.of hLD, at4, _, _, rfl, rfl, ?_⟩
    refine ⟨_, rfl, l, zs, 1, rfl, Same.seq s01 hl, hz, fun z1 hz1 => ?_⟩
    refine ⟨_, rfl, _, _, rfl, rfl, z1, d0 + 1, by rw [Int.natCast_add]; rfl, by omega, hz1, fun L1 H2 es s2 nL1 hL1 he => ?_⟩
    refine ⟨L1, es, rfl, hL1, by omega, fun L2 H3 fs s3 nL2 hL2 hf => ?_⟩
    subst hf
    have s03 := s01.trans (s2.trans s3)
    obtain ⟨he1, he2⟩ := he
    have hflen : (es.map fun d => 1 + d).length = d0 + 1 := by rw [List.length_map]; exact he1
    refine ⟨_, rfl, rfl, _, rfl, ?_⟩
    refine ite_cases (fun h4 => ?A) (fun h4 => ?B)
    case' A =>
      have h4' : d4 = 1 := by
        have := V.int.inj h4
        omega
      refine ⟨_, rfl, L2, rfl, ⟨_, SqL.of hL2⟩, fun LR hLRn => ?_⟩
      refine lc_list (K := K) (a := L2) (xs := vN (es.map fun d => 1 + d)) (fun i H4 => Same H3 H4 ∧ H4 LR = some (.lst (vN (((es.map fun d => 1 + d).take i).map fun (z : Nat) => 1 + ((z : Int) % ((1000000 : Nat) : Int)).toNat)))) ⟨Same.new hLRn, upd_same⟩ (fun i H4 _ q => SqL.of (q.1 _ _ hL2)) ?_ ?_
      · rintro i x H4 hx ⟨s4, hLR4⟩
        obtain ⟨z, hz, rfl⟩ := vN_get hx
        have hi : i < (es.map fun d => 1 + d).length := (List.getElem?_eq_some_iff.mp hz).1
        refine ⟨rfl, tyes_if ?_⟩
        refine ⟨_, rfl, .inl ⟨_, rfl, _, _, rfl, rfl, ⟨by decide, by decide, by decide⟩, _, _, rfl, rfl, (by show (0 : Int) < 10 ^ (6 : Int).toNat; decide), _, _, rfl, rfl, _, hLR4, ?_, Same.then_set s4 hLRn, ?_⟩⟩
        · rw [vN_len, List.length_map, List.length_take, sizeLine_eq]
          omega
        · rw [upd_same, take_snoc hz, List.map_append]
          show some (HO.lst (vN _ ++ [V.int (1 + (z : Int) % 1000000)])) = some (HO.lst (vN (_ ++ [1 + ((z : Int) % ((1000000 : Nat) : Int)).toNat])))
          rw [vN_snoc, Int.natCast_add, Int.toNat_of_nonneg (Int.emod_nonneg _ (by decide))]
          rfl
      rintro H4 ⟨s4, hLR⟩
      rw [vN_len, List.take_length] at hLR
      obtain ⟨ws, a, ers, hwl⟩ := split_end (es := (es.map fun d => 1 + d).map fun (z : Nat) => 1 + ((z : Int) % ((1000000 : Nat) : Int)).toNat) (n := d0) (by rw [List.length_map]; exact hflen)
      rw [ers] at hLR
      have hok := row_ok (ws := ws) (a := a) (k := 20) (fun z hzm => by
        rw [← ers] at hzm
        obtain ⟨y, _, rfl⟩ := List.mem_map.mp hzm
        have := mod_lt (y : Int) (s := 1000000) (by decide)
        show 1 ≤ 1 + _ ∧ 1 + _ < 1048576
        omega)
      obtain ⟨pos, bits⟩ := hok
      obtain ⟨k, hk20, hk1, hk2⟩ : ∃ k, k = 20 ∧ (∀ i, i < 1 + d4 → gr k i ≤ 600) ∧ gr k (1 + d4) ≤ 9900 := ⟨20, rfl, fun i hi => by
        rcases (by omega : i = 0 ∨ i = 1) with rfl | rfl
        · decide
        · decide, by rw [h4']; decide⟩
      rw [← hk20] at bits
      have hk60 : k ≤ 60 := by omega
    case' B =>
      have h4' : d4 = 0 := by
        rcases (by omega : d4 = 0 ∨ d4 = 1) with h | h
        · exact h
        · exact absurd (by rw [h]; rfl) h4
      obtain ⟨H4, LR, s4, hLR, eH, eL⟩ : ∃ H4 LR, Same H3 H4 ∧ H4 LR = some (.lst (vN (es.map fun d => 1 + d))) ∧ H4 = H3 ∧ LR = L2 := ⟨H3, L2, Same.refl _, hL2, rfl, rfl⟩
      rw [← eH, ← eL]
      obtain ⟨ws, a, ers, hwl⟩ := split_end (es := es.map fun d => 1 + d) (n := d0) hflen
      rw [ers] at hLR
      have hok := row_ok (ws := ws) (a := a) (k := 60) (fun z hzm => by
        rw [← ers] at hzm
        obtain ⟨y, hy, rfl⟩ := List.mem_map.mp hzm
        have := he2 y hy
        refine ⟨by omega, ?_⟩
        show 1 + y < 1152921504606846976
        omega)
      obtain ⟨pos, bits⟩ := hok
      obtain ⟨k, hk20, hk1, hk2⟩ : ∃ k, k = 60 ∧ (∀ i, i < 1 + d4 → gr k i ≤ 600) ∧ gr k (1 + d4) ≤ 9900 := ⟨60, rfl, fun i hi => by
        have : i = 0 := by omega
        rw [this]
        decide, by rw [h4']; decide⟩
      rw [← hk20] at bits
      have hk60 : k ≤ 60 := by omega
    all_goals
      have s04 := s03.trans s4
      have s14 := s2.trans (s3.trans s4)
      refine ⟨_, rfl, LD, _, _, _, rfl, rfl, SqL.of (s14 _ _ hLD), at2, rfl, _, rfl, ?_⟩
      refine ite_cases (fun h2 => ?_) (fun h2 => ?_)
      · exact hB H4 _ _ _ _ _ _ _ _ LD LR d0 d1 d2 d3 d4 0 k ws a s04 (s14 _ _ hLD) hLR b0 b1 b3 b4 (by decide) hwl pos bits hk60 hk1 hk2
      · exact hB H4 _ _ _ _ _ _ _ _ LD LR d0 d1 d2 d3 d4 1 k ws a s04 (s14 _ _ hLD) hLR b0 b1 b3 b4 (by decide) hwl pos bits hk60 hk1 hk2
end
end Dl

namespace Dl
open PySem PySem.Spec PyProof.Rows L2
/-! ### the law's call, over a base that is known to hold no _pylong -/
section
variable {h : Heap} {H : Hp} {a : Addr} {lo : Obj}
/-- what is not the script stays in the base -/
theorem hid_get (hH : ∀ b, H b ≠ none → b = a) (ha : h.get? a = some lo) {b : Addr} {o : Obj} (e : h.get? b = some o) (n : o ≠ lo) : (hidT h H).get? b = some o := by
  refine hidT_get e ?_
  cases q : H b with
  | none => rfl
  | some u =>
    have e' := hH b (by rw [q]; exact fun z => nomatch z)
    rw [e', ha] at e
    exact absurd (Option.some.inj e).symm n
theorem hid_ns (hH : ∀ b, H b ≠ none → b = a) (ha : h.get? a = some lo) (hd : ∀ es ep, lo.data ≠ .dict es ep) {b : Addr} {m : Str → Option Value} (x : h.Ns b m) : (hidT h H).Ns b m := by
  obtain ⟨o, es, ep, e, d, r⟩ := x
  exact ⟨o, es, ep, hid_get hH ha e (fun z => hd es ep (by rw [← z]; exact d)), d, r⟩
theorem hid_seer (hH : ∀ b, H b ≠ none → b = a) (ha : h.get? a = some lo) (hd : ∀ es ep, lo.data ≠ .dict es ep) (hc : lo.cls ≠ .type "module") (x : h.NoSeer) : (hidT h H).NoSeer where
  statics := let ⟨mc, p, q⟩ := x.statics; ⟨mc, hid_ns hH ha hd p, q⟩
  mods := let ⟨mc, p, q⟩ := x.mods; ⟨mc, hid_ns hH ha hd p, q⟩
  imp := let ⟨mc, p, q⟩ := x.imp; ⟨mc, hid_ns hH ha hd p, q⟩
  main := let ⟨mg, bm, ob, p, q, r, t, u⟩ := x.main; ⟨mg, bm, ob, hid_ns hH ha hd p, q, hid_get hH ha r (fun z => hc (by rw [← z]; exact t)), t, u⟩
end
theorem law_callS {P : Program} {w : World} {K : PySem.W.Frag} {mg mb : Str → Option Value} {k : Nat} {fa a : Addr} {fd : FuncData} {x : Str} {sp : Sp} {s : Shared} {vs : List Value} {ns : List Int} (KX : K.In s.heap) (hns : s.heap.Ns mainGlobals mg) (hb : s.heap.Ns builtinsNs mb) (hbb : ∀ x : Str, x ≠ "__name__" → mb x = bootBuiltins x)
    (hlim : s.heap.NoLimit) (hseer : s.heap.NoSeer) (hg : s.gens = #[]) (ha : s.heap.get? a = some { cls := .type "list", data := .seq vs.toArray }) (hi : IntsAre vs ns) (hl : ns.length ≤ sizeLine) (hr : Room k callerA)
    (F : ∀ base : Heap, K.In base → base.Ns mainGlobals mg → base.NoSeer → FnOk P w K mg base CX0 k fa fd [x] sp) (hbind : ∀ (s : Shared) (u : Value), BindsTo s fd ⟨[u], []⟩ [(x, u)])
    (hsp : ∀ H : Hp, SqL K H a (ns.map V.int) → sp [.ref a] H (fun v _ => v = .bl true) fun _ _ _ => False) :
    codeAny (model P w) callerA (.call (.ref fa) ⟨[.ref a], []⟩) (fun r s' => r = .ok (.ret (.bool true)) ∧ OldK s.heap s'.heap ∧ s'.os = s.os ∧ AllBare s'.gens) s := by
  have rv := vals_ints hi
  have key : ∀ H : Hp, (∀ b, H b = none ∨ ∃ o xs, H b = some (.frz o (.lst xs))) → (∀ b, H b ≠ none → b = a) → (H a ≠ none → K.lookup a = none) → SqL K H a (ns.map V.int) → HOk P w H s.heap →
      codeAny (model P w) callerA (.call (.ref fa) ⟨[.ref a], []⟩) (fun r s' => r = .ok (.ret (.bool true)) ∧ OldK s.heap s'.heap ∧ s'.os = s.os ∧ AllBare s'.gens) s := by
    intro H hO hA hK hS hok
    have hd : ∀ es ep, ({ cls := .type "list", data := .seq vs.toArray } : Obj).data ≠ .dict es ep := fun _ _ z => nomatch z
    have hc : ({ cls := .type "list", data := .seq vs.toArray } : Obj).cls ≠ .type "module" := fun z => by
      have z2 : Value.type "list" = Value.type "module" := z
      injection z2 with z3
      exact absurd z3 (by decide)
    have nK := hid_ns hA ha hd hns
    have bK : K.In (hidT s.heap H) := fun b o e => hidT_get (KX b o e) (by
      cases q : H b with
      | none => rfl
      | some u =>
        have e' := hA b (by rw [q]; exact fun z => nomatch z)
        have := hK (by rw [← e', q]; exact fun z => nomatch z)
        rw [e', this] at e
        cases e)
    have M : Mod K mg (hidT s.heap H) := ⟨bK, nK, ⟨mb, hid_ns hA ha hd hb, hbb⟩, let ⟨mc, h1, h2⟩ := hlim; ⟨mc, hid_ns hA ha hd h1, h2⟩⟩
    have e0 : Env0 P w K mg (hidT s.heap H) callerA [] s H := ⟨rfl, M, fun b o e => of_hidT e, Nat.le_of_eq (hidT_size _ _), trivial, fun b hb => (nomatch (show b ∈ ([] : List Addr) from hb)), hok, .of_eq hg⟩
    refine codeAny_mono ((F _ bK nK (hid_seer hA ha hd hc hseer)).run callerA [] s H ⟨[.ref a], []⟩ [.ref a] [.ref a] _ _ hr e0 (hbind s (.ref a)) (.cons rfl .nil) (hsp H hS)) fun r s' h => ?_
    match r, h with
    | .error e, h => exact h.elim
    | .ok .next, h => exact h.elim
    | .ok .brk, h => exact h.elim
    | .ok .cont, h => exact h.elim
    | .ok (.ret u), h =>
      obtain ⟨v, H', os, bare, un, hok', rv', q⟩ := h
      cases (show v = .bl true from q)
      cases (show u = Value.bool true from rv')
      refine ⟨rfl, OldK.of_keep fun b o e => ?_, os, bare⟩
      rcases hO b with z | ⟨ob, xs, z⟩
      · exact un.keep b o e z (fun y => (nomatch (show b ∈ ([] : List Addr) from y))) (fun y => nomatch y)
      · have z2 := un.frzs b ob _ z
        obtain ⟨e1, _⟩ := hok b _ z
        obtain ⟨e2, _⟩ := hok' b _ z2
        rw [e] at e1
        cases e1
        exact e2
  cases hk : K.lookup a with
  | some o =>
    have e := KX a o hk
    rw [ha] at e
    cases e
    exact key (fun _ => none) (fun _ => .inl rfl) (fun b z => absurd rfl z) (fun z => absurd rfl z) (.inr ⟨_, vs.toArray, _, hk, rfl, rfl, rfl, by rw [List.size_toArray, hi.length]; exact hl, by simpa using rv⟩) (fun b u z => nomatch (show (none : Option HO) = some u from z))
  | none =>
    refine key (fun b => if b = a then some (.frz { cls := .type "list", data := .seq vs.toArray } (.lst (ns.map V.int))) else none) (fun b => ?_) (fun b z => ?_) (fun _ => hk) (.inl (.inr ⟨{ cls := .type "list", data := .seq vs.toArray }, if_pos rfl⟩)) (fun b u z => ?_)
    · by_cases e : b = a
      · exact .inr ⟨_, _, if_pos e⟩
      · exact .inl (if_neg e)
    · by_cases e : b = a
      · exact e
      · exact absurd (if_neg e) z
    · by_cases e : b = a
      · cases (if_pos e).symm.trans z
        rw [e]
        exact ⟨ha, by rw [List.length_map]; exact hl, vs, _, rv, ha⟩
      · cases (if_neg e).symm.trans z
theorem intBits_lt {z : Int} {k : Nat} (h : Builtin.Int.intBits z ≤ k) : z.natAbs < 2 ^ (k + 1) := by
  by_cases e : z = 0
  · rw [e]
    exact Nat.pow_pos (by decide)
  · have e2 : Builtin.Int.intBits z = z.natAbs.log2 + 1 := by
      unfold Builtin.Int.intBits
      rw [if_neg (by simpa using e)]
    rw [e2] at h
    exact Nat.lt_of_lt_of_le Nat.lt_log2_self (Nat.pow_le_pow_right (by decide) (by omega))
theorem walk {l : PySem.W.OpenLaw} {q : Program} {loose : List Str} {XP : (Str → Option Value) → Heap → Prop} {YP : World → Heap → Prop} {d : DefRec} {K : Params → PySem.W.Frag} (hn : l.most = some 63) (hdf : d.params.defaults = []) (hq : importsNone q = true)
    (hY : ∀ (w : World) (h : Heap), YP w h → (K w.params).In h)
    (F : ∀ (w : World) (mg : Str → Option Value) (fa : Addr) (h : Heap), (K w.params).In h → h.Ns mainGlobals mg → mg d.name = some (.ref fa) →
      ∃ fd : FuncData, (∀ (s : Shared) (u : Value), BindsTo s fd ⟨[u], []⟩ [("_law_script", u)]) ∧ ∀ base : Heap, (K w.params).In base → base.Ns mainGlobals mg → base.NoSeer → FnOk l.prog w (K w.params) mg base CX0 47 fa fd ["_law_script"] (spLaw (K w.params))) :
    PySem.W.WalkO q loose XP YP l.row.toRowW d [] (fun f vs => PySem.call f vs) := by
  refine Att.attach_callB hn hdf fun w s0 s1 mg mb fa o pm cd doc a vs ns G Y ho hd hcd hmg hobj hints hlen hbits hg => ?_
  have KX := hY w _ Y
  obtain ⟨fd, hb, hF⟩ := F w mg fa _ KX G.T.g hmg
  exact law_callS KX G.T.g G.T.b G.T.builtins G.T.nolimit (G.T.seer hq) hg hobj hints (Nat.le_trans hlen (by decide)) ⟨rfl, by decide, by decide⟩ hF hb (fun H hS => ⟨a, ns, rfl, hS, fun z hz => bd_le (intBits_lt (hbits z hz)) (by decide), fun _ => rfl⟩)
end Dl

namespace Dl
open PySem PySem.Spec PyProof.Rows L2
abbrev s_SalesBook_iter : Stmt := inClass (tops 31) 7
theorem sc_SalesBook_iter : FnScope ["self"] ["self"] (defScope s_SalesBook_iter) := ⟨rfl, rfl, rfl, by decide +kernel, rfl, by decide +kernel, by decide +kernel⟩
theorem kit_int {K : PySem.W.Frag} {R : Addr} (h : PySem.W.subIn K (.ref R) (.type "int") = some false) : PySem.W.kitOne K (.ref R) (.type "int") = some false := by
  unfold PySem.W.kitOne
  rw [if_neg (show ¬ ((Value.ref R == Value.type "int") = true) from Bool.false_ne_true)]
  show (if PySem.W.kitMeta "int" = true then PySem.W.subIn K (.ref R) (.type "int") else none) = _
  rw [if_pos (by decide +kernel)]
  exact h
theorem all_mk {l : PySem.W.OpenLaw} {w : World} {K : PySem.W.Frag} {h : Heap} {mg : Str → Option Value} {fa : Addr} (X : K.In h) (G : h.Ns mainGlobals mg) (hfa : mg "law" = some (.ref fa)) (htree : l.prog.given.tree = none) (htop : (l.prog.main.scope.names.lookup ("super" : Str)).isSome = false)
    {R W S : Addr}
    {tmW : Tok}
    {tmS : Tok}
    {tmr : Tok}
    {f_ri dT_ri : Addr}
    {tk_ri : Tok}
    {oT_ri : Value}
    {dd_ri : Option Addr}
    {nn_ri : Nat}
    {sT_ri : Array (Option Value)}
    {od_ri an_ri : Option Addr}
    {sl_ri : Array (Option Value)}
    {oc_ri kV_ri dc_ri pm_ri cd_ri ct_ri : Value}
    {f_ra : Addr}
    {od_ra an_ra : Option Addr}
    {sl_ra : Array (Option Value)}
    {oc_ra kV_ra dc_ra pm_ra cd_ra ct_ra : Value}
    {f_rs : Addr}
    {od_rs an_rs : Option Addr}
    {sl_rs : Array (Option Value)}
    {oc_rs kV_rs dc_rs pm_rs cd_rs ct_rs : Value}
    {f_ro : Addr}
    {od_ro an_ro : Option Addr}
    {sl_ro : Array (Option Value)}
    {oc_ro kV_ro dc_ro pm_ro cd_ro ct_ro : Value}
    {f_qi : Addr}
    {f_qs : Addr}
    {od_qi an_qi : Option Addr}
    {sl_qi : Array (Option Value)}
    {oc_qi kV_qi dc_qi pm_qi cd_qi ct_qi : Value}
    {od_qs an_qs : Option Addr}
    {sl_qs : Array (Option Value)}
    {oc_qs kV_qs dc_qs pm_qs cd_qs ct_qs : Value}
    {cdW : ClassData}
    {f_wi cda_wi cc_wi : Addr}
    {od_wi an_wi cld_wi cdd_wi : Option Addr}
    {sl_wi csl_wi ccs_wi : Array (Option Value)}
    {oc_wi kV_wi dc_wi pm_wi ct_wi cl_wi ccl_wi : Value}
    {vs_wi : Array Value}
    {tf_wi : Tok}
    {f_ws cda_ws cc_ws : Addr}
    {od_ws an_ws cld_ws cdd_ws : Option Addr}
    {sl_ws csl_ws ccs_ws : Array (Option Value)}
    {oc_ws kV_ws dc_ws pm_ws ct_ws cl_ws ccl_ws : Value}
    {vs_ws : Array Value}
    {tf_ws : Tok}
    {f_wt : Addr}
    {od_wt an_wt : Option Addr}
    {sl_wt : Array (Option Value)}
    {oc_wt kV_wt dc_wt pm_wt cd_wt ct_wt : Value}
    {f_wa : Addr}
    {od_wa an_wa : Option Addr}
    {sl_wa : Array (Option Value)}
    {oc_wa kV_wa dc_wa pm_wa cd_wa ct_wa : Value}
    {f_wr : Addr}
    {od_wr an_wr : Option Addr}
    {sl_wr : Array (Option Value)}
    {oc_wr kV_wr dc_wr pm_wr cd_wr ct_wr : Value}
    {f_si dT_si dU_si : Addr}
    {oT_si : Value}
    {dd_si : Option Addr}
    {nn_si : Nat}
    {sT_si : Array (Option Value)}
    {od_si an_si : Option Addr}
    {sl_si : Array (Option Value)}
    {oc_si kV_si dc_si pm_si cd_si ct_si : Value}
    {f_so : Addr}
    {od_so an_so : Option Addr}
    {sl_so : Array (Option Value)}
    {oc_so kV_so dc_so pm_so cd_so ct_so : Value}
    {f_sl : Addr}
    {od_sl an_sl : Option Addr}
    {sl_sl : Array (Option Value)}
    {oc_sl kV_sl dc_sl pm_sl cd_sl ct_sl : Value}
    {f_st : Addr}
    {od_st an_st : Option Addr}
    {sl_st : Array (Option Value)}
    {oc_st kV_st dc_st pm_st cd_st ct_st : Value}
    {f_check_lot : Addr}
    {od_check_lot an_check_lot : Option Addr}
    {sl_check_lot : Array (Option Value)}
    {oc_check_lot kV_check_lot dc_check_lot pm_check_lot cd_check_lot ct_check_lot : Value}
    {f_check_alike : Addr}
    {od_check_alike an_check_alike : Option Addr}
    {sl_check_alike : Array (Option Value)}
    {oc_check_alike kV_check_alike dc_check_alike pm_check_alike cd_check_alike ct_check_alike : Value}
    {f_likelihood : Addr}
    {od_likelihood an_likelihood : Option Addr}
    {sl_likelihood : Array (Option Value)}
    {oc_likelihood kV_likelihood dc_likelihood pm_likelihood cd_likelihood ct_likelihood : Value}
    {f_shown_things : Addr}
    {od_shown_things an_shown_things : Option Addr}
    {sl_shown_things : Array (Option Value)}
    {oc_shown_things kV_shown_things dc_shown_things pm_shown_things cd_shown_things ct_shown_things : Value}
    {f_whole_rule : Addr}
    {od_whole_rule an_whole_rule : Option Addr}
    {sl_whole_rule : Array (Option Value)}
    {oc_whole_rule kV_whole_rule dc_whole_rule pm_whole_rule cd_whole_rule ct_whole_rule : Value}
    {f_one_round : Addr}
    {od_one_round an_one_round : Option Addr}
    {sl_one_round : Array (Option Value)}
    {oc_one_round kV_one_round dc_one_round pm_one_round cd_one_round ct_one_round : Value}
    {f_checked_record : Addr}
    {od_checked_record an_checked_record : Option Addr}
    {sl_checked_record : Array (Option Value)}
    {oc_checked_record kV_checked_record dc_checked_record pm_checked_record cd_checked_record ct_checked_record : Value}
    {f__law_cell : Addr}
    {od__law_cell an__law_cell : Option Addr}
    {sl__law_cell : Array (Option Value)}
    {oc__law_cell kV__law_cell dc__law_cell pm__law_cell cd__law_cell ct__law_cell : Value}
    {f__law_draws : Addr}
    {od__law_draws an__law_draws : Option Addr}
    {sl__law_draws : Array (Option Value)}
    {oc__law_draws kV__law_draws dc__law_draws pm__law_draws cd__law_draws ct__law_draws : Value}
    {f__law_row : Addr}
    {od__law_row an__law_row : Option Addr}
    {sl__law_row : Array (Option Value)}
    {oc__law_row kV__law_row dc__law_row pm__law_row cd__law_row ct__law_row : Value}
    {f__law_ups : Addr}
    {od__law_ups an__law_ups : Option Addr}
    {sl__law_ups : Array (Option Value)}
    {oc__law_ups kV__law_ups dc__law_ups pm__law_ups cd__law_ups ct__law_ups : Value}
    {f__law_lot : Addr}
    {od__law_lot an__law_lot : Option Addr}
    {sl__law_lot : Array (Option Value)}
    {oc__law_lot kV__law_lot dc__law_lot pm__law_lot cd__law_lot ct__law_lot : Value}
    {f__law_records : Addr}
    {od__law_records an__law_records : Option Addr}
    {sl__law_records : Array (Option Value)}
    {oc__law_records kV__law_records dc__law_records pm__law_records cd__law_records ct__law_records : Value}
    {f__law_book : Addr}
    {od__law_book an__law_book : Option Addr}
    {sl__law_book : Array (Option Value)}
    {oc__law_book kV__law_book dc__law_book pm__law_book cd__law_book ct__law_book : Value}
    {f__law_is_int : Addr}
    {od__law_is_int an__law_is_int : Option Addr}
    {sl__law_is_int : Array (Option Value)}
    {oc__law_is_int kV__law_is_int dc__law_is_int pm__law_is_int cd__law_is_int ct__law_is_int : Value}
    {f__law_same : Addr}
    {od__law_same an__law_same : Option Addr}
    {sl__law_same : Array (Option Value)}
    {oc__law_same kV__law_same dc__law_same pm__law_same cd__law_same ct__law_same : Value}
    {f__law_same_lot : Addr}
    {od__law_same_lot an__law_same_lot : Option Addr}
    {sl__law_same_lot : Array (Option Value)}
    {oc__law_same_lot kV__law_same_lot dc__law_same_lot pm__law_same_lot cd__law_same_lot ct__law_same_lot : Value}
    {f__law_holds : Addr}
    {od__law_holds an__law_holds : Option Addr}
    {sl__law_holds : Array (Option Value)}
    {oc__law_holds kV__law_holds dc__law_holds pm__law_holds cd__law_holds ct__law_holds : Value}
    {f__law_sold : Addr}
    {od__law_sold an__law_sold : Option Addr}
    {sl__law_sold : Array (Option Value)}
    {oc__law_sold kV__law_sold dc__law_sold pm__law_sold cd__law_sold ct__law_sold : Value}
    {f__law_sold_ones : Addr}
    {od__law_sold_ones an__law_sold_ones : Option Addr}
    {sl__law_sold_ones : Array (Option Value)}
    {oc__law_sold_ones kV__law_sold_ones dc__law_sold_ones pm__law_sold_ones cd__law_sold_ones ct__law_sold_ones : Value}
    {f__law_chance : Addr}
    {od__law_chance an__law_chance : Option Addr}
    {sl__law_chance : Array (Option Value)}
    {oc__law_chance kV__law_chance dc__law_chance pm__law_chance cd__law_chance ct__law_chance : Value}
    {f__law_numbers_of : Addr}
    {od__law_numbers_of an__law_numbers_of : Option Addr}
    {sl__law_numbers_of : Array (Option Value)}
    {oc__law_numbers_of kV__law_numbers_of dc__law_numbers_of pm__law_numbers_of cd__law_numbers_of ct__law_numbers_of : Value}
    {f_law : Addr}
    {od_law an_law : Option Addr}
    {sl_law : Array (Option Value)}
    {oc_law kV_law dc_law pm_law cd_law ct_law : Value}
    {f_le dK_le : Addr}
    {tk_le : Tok}
    {od_le an_le : Option Addr}
    {sl_le : Array (Option Value)}
    {oc_le dc_le pm_le cd_le ct_le : Value}
    (a_R : PySem.W.nsIn K mainGlobals "Ratio" = some (some (.ref R)))
    (a_W : PySem.W.nsIn K mainGlobals "Weighted" = some (some (.ref W)))
    (a_S : PySem.W.nsIn K mainGlobals "SalesBook" = some (some (.ref S)))
    (pgR : PySem.W.plainGet K R Str.empty = true)
    (hdR : PySem.W.hasDictIn K R = true)
    (poR : PySem.W.plainOver K R = true)
    (saR : PySem.W.findIn K (.ref R) "__setattr__" = some (some (.builtin "object.__setattr__")))
    (mkR : PySem.W.makesIn K R = true)
    (kcR : PySem.W.keepIn K (.ref R) = true)
    (pgW : PySem.W.plainGet K W Str.empty = true)
    (hdW : PySem.W.hasDictIn K W = true)
    (poW : PySem.W.plainOver K W = true)
    (saW : PySem.W.findIn K (.ref W) "__setattr__" = some (some (.builtin "object.__setattr__")))
    (mkW : PySem.W.makesIn K W = true)
    (kcW : PySem.W.keepIn K (.ref W) = true)
    (pgS : PySem.W.plainGet K S Str.empty = true)
    (hdS : PySem.W.hasDictIn K S = true)
    (poS : PySem.W.plainOver K S = true)
    (saS : PySem.W.findIn K (.ref S) "__setattr__" = some (some (.builtin "object.__setattr__")))
    (mkS : PySem.W.makesIn K S = true)
    (kcS : PySem.W.keepIn K (.ref S) = true)
    (naR_top : PySem.W.findIn K (.ref R) "top" = some none)
    (naR_bottom : PySem.W.findIn K (.ref R) "bottom" = some none)
    (naW_many : PySem.W.findIn K (.ref W) "many" = some none)
    (naW_weights : PySem.W.findIn K (.ref W) "weights" = some none)
    (naW_aside : PySem.W.findIn K (.ref W) "aside" = some none)
    (naS_many : PySem.W.findIn K (.ref S) "many" = some none)
    (naS_records : PySem.W.findIn K (.ref S) "records" = some none)
    (moW : PySem.W.findIn K (.ref W) "MOST" = some (some (.int 24 tmW)))
    (mgW : PySem.W.specialIn K (.int 24 tmW) "__get__" = some none)
    (moS : PySem.W.findIn K (.ref S) "MOST" = some (some (.int 24 tmS)))
    (mgS : PySem.W.specialIn K (.int 24 tmS) "__get__" = some none)
    (suR : PySem.W.subIn K (.ref R) (.type "int") = some false)
    (clR : PySem.W.findIn K (.ref R) "__class__" = some (some (.builtin "object.__class__")))
    (mrR : PySem.W.mroIn K R (.type "object") = some true)
    (clW : PySem.W.findIn K (.ref W) "__class__" = some (some (.builtin "object.__class__")))
    (mrW : PySem.W.mroIn K W (.type "object") = some true)
    (sc1 : PySem.W.specialIn K (.builtin "object.__class__") "__get__" = some (some (.builtin "getset_descriptor.__get__")))
    (sc2 : PySem.W.takesIn K (.builtin "object.__class__") = some true)
    (a_gcd : PySem.W.nsIn K mainGlobals "gcd" = some (some (.builtin "math.gcd")))
    (a_lcm : PySem.W.nsIn K mainGlobals "lcm" = some (some (.builtin "math.lcm")))
    (a_mr : PySem.W.nsIn K mainGlobals "MOST_ROUNDS" = some (some (.int 2 tmr)))
    (n_len : PySem.W.nsIn K mainGlobals "len" = some none)
    (n_range : PySem.W.nsIn K mainGlobals "range" = some none)
    (n_sum : PySem.W.nsIn K mainGlobals "sum" = some none)
    (n_any : PySem.W.nsIn K mainGlobals "any" = some none)
    (n_list : PySem.W.nsIn K mainGlobals "list" = some none)
    (n_tuple : PySem.W.nsIn K mainGlobals "tuple" = some none)
    (n_enumerate : PySem.W.nsIn K mainGlobals "enumerate" = some none)
    (n_zip : PySem.W.nsIn K mainGlobals "zip" = some none)
    (n_isinstance : PySem.W.nsIn K mainGlobals "isinstance" = some none)
    (n_int : PySem.W.nsIn K mainGlobals "int" = some none)
    (n_bool : PySem.W.nsIn K mainGlobals "bool" = some none)
    (n_iter : PySem.W.nsIn K mainGlobals "iter" = some none)
    (n_super : PySem.W.nsIn K mainGlobals "super" = some none)
    (a_ri : PySem.W.findIn K (.ref R) "__init__" = some (some (.ref f_ri)))
    (i_ri : PySem.W.isFn K (.ref f_ri) = true)
    (l_ri : K.lookup f_ri = some ⟨oc_ri, od_ri, .func (PySem.W.fnOf "__init__" "Ratio.__init__" (defArgs s_Ratio_init) (defBody s_Ratio_init) (defScope s_Ratio_init) (.ref dT_ri) kV_ri dc_ri pm_ri an_ri cd_ri ct_ri), sl_ri⟩)
    (c_ri : PySem.W.codeIn K cd_ri "Ratio.__init__" = true)
    (k_ri : PySem.W.keepIn K (.ref f_ri) = true)
    (t_ri : K.lookup dT_ri = some ⟨oT_ri, dd_ri, .seq [Value.int 1 tk_ri].toArray nn_ri, sT_ri⟩)
    (a_ra : PySem.W.findIn K (.ref R) "__add__" = some (some (.ref f_ra)))
    (i_ra : PySem.W.isFn K (.ref f_ra) = true)
    (l_ra : K.lookup f_ra = some ⟨oc_ra, od_ra, .func (PySem.W.fnOf "__add__" "Ratio.__add__" (defArgs s_Ratio_add) (defBody s_Ratio_add) (defScope s_Ratio_add) .none kV_ra dc_ra pm_ra an_ra cd_ra ct_ra), sl_ra⟩)
    (c_ra : PySem.W.codeIn K cd_ra "Ratio.__add__" = true)
    (k_ra : PySem.W.keepIn K (.ref f_ra) = true)
    (a_rs : PySem.W.findIn K (.ref R) "__sub__" = some (some (.ref f_rs)))
    (i_rs : PySem.W.isFn K (.ref f_rs) = true)
    (l_rs : K.lookup f_rs = some ⟨oc_rs, od_rs, .func (PySem.W.fnOf "__sub__" "Ratio.__sub__" (defArgs s_Ratio_sub) (defBody s_Ratio_sub) (defScope s_Ratio_sub) .none kV_rs dc_rs pm_rs an_rs cd_rs ct_rs), sl_rs⟩)
    (c_rs : PySem.W.codeIn K cd_rs "Ratio.__sub__" = true)
    (k_rs : PySem.W.keepIn K (.ref f_rs) = true)
    (a_ro : PySem.W.findIn K (.ref R) "over" = some (some (.ref f_ro)))
    (i_ro : PySem.W.isFn K (.ref f_ro) = true)
    (l_ro : K.lookup f_ro = some ⟨oc_ro, od_ro, .func (PySem.W.fnOf "over" "Ratio.over" (defArgs s_Ratio_over) (defBody s_Ratio_over) (defScope s_Ratio_over) .none kV_ro dc_ro pm_ro an_ro cd_ro ct_ro), sl_ro⟩)
    (c_ro : PySem.W.codeIn K cd_ro "Ratio.over" = true)
    (k_ro : PySem.W.keepIn K (.ref f_ro) = true)
    (sfR : PySem.W.selfFirst K R = true)
    (u1 : PySem.W.ks_superIn K W W "__init__" = some (some (.ref f_qi)))
    (i_qi : PySem.W.isFn K (.ref f_qi) = true)
    (fk_qi : PySem.W.fnIn K f_qi = true)
    (l_qi : K.lookup f_qi = some ⟨oc_qi, od_qi, .func (PySem.W.fnOf "__init__" "Rule.__init__" (defArgs s_Rule_init) (defBody s_Rule_init) (defScope s_Rule_init) .none kV_qi dc_qi pm_qi an_qi cd_qi ct_qi), sl_qi⟩)
    (c_qi : PySem.W.codeIn K cd_qi "Rule.__init__" = true)
    (k_qi : PySem.W.keepIn K (.ref f_qi) = true)
    (u2 : PySem.W.ks_superIn K W W "shares" = some (some (.ref f_qs)))
    (i_qs : PySem.W.isFn K (.ref f_qs) = true)
    (fk_qs : PySem.W.fnIn K f_qs = true)
    (l_qs : K.lookup f_qs = some ⟨oc_qs, od_qs, .func (PySem.W.fnOf "shares" "Rule.shares" (defArgs s_Rule_shares) (defBody s_Rule_shares) (defScope s_Rule_shares) .none kV_qs dc_qs pm_qs an_qs cd_qs ct_qs), sl_qs⟩)
    (c_qs : PySem.W.codeIn K cd_qs "Rule.shares" = true)
    (k_qs : PySem.W.keepIn K (.ref f_qs) = true)
    (clsW : PySem.W.clsIn K W = some cdW)
    (subW : PySem.W.mroIn K W (.ref W) = some true)
    (noOp : PySem.W.nsIn K cStatics "thirdparty.any" = some none)
    (a_wi : PySem.W.findIn K (.ref W) "__init__" = some (some (.ref f_wi)))
    (i_wi : PySem.W.isFn K (.ref f_wi) = true)
    (l_wi : K.lookup f_wi = some ⟨oc_wi, od_wi, .func (PySem.W.ksFn "__init__" "Weighted.__init__" (defArgs s_Weighted_init) (defBody s_Weighted_init) (defScope s_Weighted_init) .none kV_wi dc_wi pm_wi an_wi (.ref cda_wi) ct_wi cc_wi), sl_wi⟩)
    (c_wi : PySem.W.codeIn K (.ref cda_wi) "Weighted.__init__" = true)
    (k_wi : PySem.W.keepIn K (.ref f_wi) = true)
    (e_wi : K.lookup cc_wi = some ⟨cl_wi, cld_wi, .cell (some (.ref W)), csl_wi⟩)
    (r_wi : K.lookup cda_wi = some ⟨ccl_wi, cdd_wi, .fields vs_wi, ccs_wi⟩)
    (t_wi : vs_wi[2]? = some (.str l.prog.main.file tf_wi))
    (a_ws : PySem.W.findIn K (.ref W) "shares" = some (some (.ref f_ws)))
    (i_ws : PySem.W.isFn K (.ref f_ws) = true)
    (l_ws : K.lookup f_ws = some ⟨oc_ws, od_ws, .func (PySem.W.ksFn "shares" "Weighted.shares" (defArgs s_Weighted_shares) (defBody s_Weighted_shares) (defScope s_Weighted_shares) .none kV_ws dc_ws pm_ws an_ws (.ref cda_ws) ct_ws cc_ws), sl_ws⟩)
    (c_ws : PySem.W.codeIn K (.ref cda_ws) "Weighted.shares" = true)
    (k_ws : PySem.W.keepIn K (.ref f_ws) = true)
    (e_ws : K.lookup cc_ws = some ⟨cl_ws, cld_ws, .cell (some (.ref W)), csl_ws⟩)
    (r_ws : K.lookup cda_ws = some ⟨ccl_ws, cdd_ws, .fields vs_ws, ccs_ws⟩)
    (t_ws : vs_ws[2]? = some (.str l.prog.main.file tf_ws))
    (a_wt : PySem.W.findIn K (.ref W) "total_of" = some (some (.ref f_wt)))
    (i_wt : PySem.W.isFn K (.ref f_wt) = true)
    (l_wt : K.lookup f_wt = some ⟨oc_wt, od_wt, .func (PySem.W.fnOf "total_of" "Weighted.total_of" (defArgs s_Weighted_total_of) (defBody s_Weighted_total_of) (defScope s_Weighted_total_of) .none kV_wt dc_wt pm_wt an_wt cd_wt ct_wt), sl_wt⟩)
    (c_wt : PySem.W.codeIn K cd_wt "Weighted.total_of" = true)
    (k_wt : PySem.W.keepIn K (.ref f_wt) = true)
    (a_wa : PySem.W.findIn K (.ref W) "away" = some (some (.ref f_wa)))
    (i_wa : PySem.W.isFn K (.ref f_wa) = true)
    (l_wa : K.lookup f_wa = some ⟨oc_wa, od_wa, .func (PySem.W.fnOf "away" "Rule.away" (defArgs s_Rule_away) (defBody s_Rule_away) (defScope s_Rule_away) .none kV_wa dc_wa pm_wa an_wa cd_wa ct_wa), sl_wa⟩)
    (c_wa : PySem.W.codeIn K cd_wa "Rule.away" = true)
    (k_wa : PySem.W.keepIn K (.ref f_wa) = true)
    (a_wr : PySem.W.findIn K (.ref W) "reduced" = some (some (.ref f_wr)))
    (i_wr : PySem.W.isFn K (.ref f_wr) = true)
    (l_wr : K.lookup f_wr = some ⟨oc_wr, od_wr, .func (PySem.W.fnOf "reduced" "Weighted.reduced" (defArgs s_Weighted_reduced) (defBody s_Weighted_reduced) (defScope s_Weighted_reduced) .none kV_wr dc_wr pm_wr an_wr cd_wr ct_wr), sl_wr⟩)
    (c_wr : PySem.W.codeIn K cd_wr "Weighted.reduced" = true)
    (k_wr : PySem.W.keepIn K (.ref f_wr) = true)
    (a_si : PySem.W.findIn K (.ref S) "__init__" = some (some (.ref f_si)))
    (i_si : PySem.W.isFn K (.ref f_si) = true)
    (l_si : K.lookup f_si = some ⟨oc_si, od_si, .func (PySem.W.fnOf "__init__" "SalesBook.__init__" (defArgs s_SalesBook_init) (defBody s_SalesBook_init) (defScope s_SalesBook_init) (.ref dT_si) kV_si dc_si pm_si an_si cd_si ct_si), sl_si⟩)
    (c_si : PySem.W.codeIn K cd_si "SalesBook.__init__" = true)
    (k_si : PySem.W.keepIn K (.ref f_si) = true)
    (t_si : K.lookup dT_si = some ⟨oT_si, dd_si, .seq [Value.ref dU_si].toArray nn_si, sT_si⟩)
    (a_so : PySem.W.findIn K (.ref S) "sold_of" = some (some (.ref f_so)))
    (i_so : PySem.W.isFn K (.ref f_so) = true)
    (l_so : K.lookup f_so = some ⟨oc_so, od_so, .func (PySem.W.fnOf "sold_of" "SalesBook.sold_of" (defArgs s_SalesBook_sold_of) (defBody s_SalesBook_sold_of) (defScope s_SalesBook_sold_of) .none kV_so dc_so pm_so an_so cd_so ct_so), sl_so⟩)
    (c_so : PySem.W.codeIn K cd_so "SalesBook.sold_of" = true)
    (k_so : PySem.W.keepIn K (.ref f_so) = true)
    (a_sl : PySem.W.findIn K (.ref S) "__len__" = some (some (.ref f_sl)))
    (i_sl : PySem.W.isFn K (.ref f_sl) = true)
    (l_sl : K.lookup f_sl = some ⟨oc_sl, od_sl, .func (PySem.W.fnOf "__len__" "SalesBook.__len__" (defArgs s_SalesBook_len) (defBody s_SalesBook_len) (defScope s_SalesBook_len) .none kV_sl dc_sl pm_sl an_sl cd_sl ct_sl), sl_sl⟩)
    (c_sl : PySem.W.codeIn K cd_sl "SalesBook.__len__" = true)
    (k_sl : PySem.W.keepIn K (.ref f_sl) = true)
    (a_st : PySem.W.findIn K (.ref S) "__iter__" = some (some (.ref f_st)))
    (i_st : PySem.W.isFn K (.ref f_st) = true)
    (l_st : K.lookup f_st = some ⟨oc_st, od_st, .func (PySem.W.fnOf "__iter__" "SalesBook.__iter__" (defArgs s_SalesBook_iter) (defBody s_SalesBook_iter) (defScope s_SalesBook_iter) .none kV_st dc_st pm_st an_st cd_st ct_st), sl_st⟩)
    (c_st : PySem.W.codeIn K cd_st "SalesBook.__iter__" = true)
    (k_st : PySem.W.keepIn K (.ref f_st) = true)
    (a_check_lot : PySem.W.nsIn K mainGlobals "check_lot" = some (some (.ref f_check_lot)))
    (l_check_lot : K.lookup f_check_lot = some ⟨oc_check_lot, od_check_lot, .func (PySem.W.fnOf "check_lot" "check_lot" (defArgs s_check_lot) (defBody s_check_lot) (defScope s_check_lot) .none kV_check_lot dc_check_lot pm_check_lot an_check_lot cd_check_lot ct_check_lot), sl_check_lot⟩)
    (c_check_lot : PySem.W.codeIn K cd_check_lot "check_lot" = true)
    (k_check_lot : PySem.W.keepIn K (.ref f_check_lot) = true)
    (a_check_alike : PySem.W.nsIn K mainGlobals "check_alike" = some (some (.ref f_check_alike)))
    (l_check_alike : K.lookup f_check_alike = some ⟨oc_check_alike, od_check_alike, .func (PySem.W.fnOf "check_alike" "check_alike" (defArgs s_check_alike) (defBody s_check_alike) (defScope s_check_alike) .none kV_check_alike dc_check_alike pm_check_alike an_check_alike cd_check_alike ct_check_alike), sl_check_alike⟩)
    (c_check_alike : PySem.W.codeIn K cd_check_alike "check_alike" = true)
    (k_check_alike : PySem.W.keepIn K (.ref f_check_alike) = true)
    (a_likelihood : PySem.W.nsIn K mainGlobals "likelihood" = some (some (.ref f_likelihood)))
    (l_likelihood : K.lookup f_likelihood = some ⟨oc_likelihood, od_likelihood, .func (PySem.W.fnOf "likelihood" "likelihood" (defArgs s_likelihood) (defBody s_likelihood) (defScope s_likelihood) .none kV_likelihood dc_likelihood pm_likelihood an_likelihood cd_likelihood ct_likelihood), sl_likelihood⟩)
    (c_likelihood : PySem.W.codeIn K cd_likelihood "likelihood" = true)
    (k_likelihood : PySem.W.keepIn K (.ref f_likelihood) = true)
    (a_shown_things : PySem.W.nsIn K mainGlobals "shown_things" = some (some (.ref f_shown_things)))
    (l_shown_things : K.lookup f_shown_things = some ⟨oc_shown_things, od_shown_things, .func (PySem.W.fnOf "shown_things" "shown_things" (defArgs s_shown_things) (defBody s_shown_things) (defScope s_shown_things) .none kV_shown_things dc_shown_things pm_shown_things an_shown_things cd_shown_things ct_shown_things), sl_shown_things⟩)
    (c_shown_things : PySem.W.codeIn K cd_shown_things "shown_things" = true)
    (k_shown_things : PySem.W.keepIn K (.ref f_shown_things) = true)
    (a_whole_rule : PySem.W.nsIn K mainGlobals "whole_rule" = some (some (.ref f_whole_rule)))
    (l_whole_rule : K.lookup f_whole_rule = some ⟨oc_whole_rule, od_whole_rule, .func (PySem.W.fnOf "whole_rule" "whole_rule" (defArgs s_whole_rule) (defBody s_whole_rule) (defScope s_whole_rule) .none kV_whole_rule dc_whole_rule pm_whole_rule an_whole_rule cd_whole_rule ct_whole_rule), sl_whole_rule⟩)
    (c_whole_rule : PySem.W.codeIn K cd_whole_rule "whole_rule" = true)
    (k_whole_rule : PySem.W.keepIn K (.ref f_whole_rule) = true)
    (a_one_round : PySem.W.nsIn K mainGlobals "one_round" = some (some (.ref f_one_round)))
    (l_one_round : K.lookup f_one_round = some ⟨oc_one_round, od_one_round, .func (PySem.W.fnOf "one_round" "one_round" (defArgs s_one_round) (defBody s_one_round) (defScope s_one_round) .none kV_one_round dc_one_round pm_one_round an_one_round cd_one_round ct_one_round), sl_one_round⟩)
    (c_one_round : PySem.W.codeIn K cd_one_round "one_round" = true)
    (k_one_round : PySem.W.keepIn K (.ref f_one_round) = true)
    (a_checked_record : PySem.W.nsIn K mainGlobals "checked_record" = some (some (.ref f_checked_record)))
    (l_checked_record : K.lookup f_checked_record = some ⟨oc_checked_record, od_checked_record, .func (PySem.W.fnOf "checked_record" "checked_record" (defArgs s_checked_record) (defBody s_checked_record) (defScope s_checked_record) .none kV_checked_record dc_checked_record pm_checked_record an_checked_record cd_checked_record ct_checked_record), sl_checked_record⟩)
    (c_checked_record : PySem.W.codeIn K cd_checked_record "checked_record" = true)
    (k_checked_record : PySem.W.keepIn K (.ref f_checked_record) = true)
    (a__law_cell : PySem.W.nsIn K mainGlobals "_law_cell" = some (some (.ref f__law_cell)))
    (l__law_cell : K.lookup f__law_cell = some ⟨oc__law_cell, od__law_cell, .func (PySem.W.fnOf "_law_cell" "_law_cell" (defArgs s__law_cell) (defBody s__law_cell) (defScope s__law_cell) .none kV__law_cell dc__law_cell pm__law_cell an__law_cell cd__law_cell ct__law_cell), sl__law_cell⟩)
    (c__law_cell : PySem.W.codeIn K cd__law_cell "_law_cell" = true)
    (k__law_cell : PySem.W.keepIn K (.ref f__law_cell) = true)
    (a__law_draws : PySem.W.nsIn K mainGlobals "_law_draws" = some (some (.ref f__law_draws)))
    (l__law_draws : K.lookup f__law_draws = some ⟨oc__law_draws, od__law_draws, .func (PySem.W.fnOf "_law_draws" "_law_draws" (defArgs s__law_draws) (defBody s__law_draws) (defScope s__law_draws) .none kV__law_draws dc__law_draws pm__law_draws an__law_draws cd__law_draws ct__law_draws), sl__law_draws⟩)
    (c__law_draws : PySem.W.codeIn K cd__law_draws "_law_draws" = true)
    (k__law_draws : PySem.W.keepIn K (.ref f__law_draws) = true)
    (a__law_row : PySem.W.nsIn K mainGlobals "_law_row" = some (some (.ref f__law_row)))
    (l__law_row : K.lookup f__law_row = some ⟨oc__law_row, od__law_row, .func (PySem.W.fnOf "_law_row" "_law_row" (defArgs s__law_row) (defBody s__law_row) (defScope s__law_row) .none kV__law_row dc__law_row pm__law_row an__law_row cd__law_row ct__law_row), sl__law_row⟩)
    (c__law_row : PySem.W.codeIn K cd__law_row "_law_row" = true)
    (k__law_row : PySem.W.keepIn K (.ref f__law_row) = true)
    (a__law_ups : PySem.W.nsIn K mainGlobals "_law_ups" = some (some (.ref f__law_ups)))
    (l__law_ups : K.lookup f__law_ups = some ⟨oc__law_ups, od__law_ups, .func (PySem.W.fnOf "_law_ups" "_law_ups" (defArgs s__law_ups) (defBody s__law_ups) (defScope s__law_ups) .none kV__law_ups dc__law_ups pm__law_ups an__law_ups cd__law_ups ct__law_ups), sl__law_ups⟩)
    (c__law_ups : PySem.W.codeIn K cd__law_ups "_law_ups" = true)
    (k__law_ups : PySem.W.keepIn K (.ref f__law_ups) = true)
    (a__law_lot : PySem.W.nsIn K mainGlobals "_law_lot" = some (some (.ref f__law_lot)))
    (l__law_lot : K.lookup f__law_lot = some ⟨oc__law_lot, od__law_lot, .func (PySem.W.fnOf "_law_lot" "_law_lot" (defArgs s__law_lot) (defBody s__law_lot) (defScope s__law_lot) .none kV__law_lot dc__law_lot pm__law_lot an__law_lot cd__law_lot ct__law_lot), sl__law_lot⟩)
    (c__law_lot : PySem.W.codeIn K cd__law_lot "_law_lot" = true)
    (k__law_lot : PySem.W.keepIn K (.ref f__law_lot) = true)
    (a__law_records : PySem.W.nsIn K mainGlobals "_law_records" = some (some (.ref f__law_records)))
    (l__law_records : K.lookup f__law_records = some ⟨oc__law_records, od__law_records, .func (PySem.W.fnOf "_law_records" "_law_records" (defArgs s__law_records) (defBody s__law_records) (defScope s__law_records) .none kV__law_records dc__law_records pm__law_records an__law_records cd__law_records ct__law_records), sl__law_records⟩)
    (c__law_records : PySem.W.codeIn K cd__law_records "_law_records" = true)
    (k__law_records : PySem.W.keepIn K (.ref f__law_records) = true)
    (a__law_book : PySem.W.nsIn K mainGlobals "_law_book" = some (some (.ref f__law_book)))
    (l__law_book : K.lookup f__law_book = some ⟨oc__law_book, od__law_book, .func (PySem.W.fnOf "_law_book" "_law_book" (defArgs s__law_book) (defBody s__law_book) (defScope s__law_book) .none kV__law_book dc__law_book pm__law_book an__law_book cd__law_book ct__law_book), sl__law_book⟩)
    (c__law_book : PySem.W.codeIn K cd__law_book "_law_book" = true)
    (k__law_book : PySem.W.keepIn K (.ref f__law_book) = true)
    (a__law_is_int : PySem.W.nsIn K mainGlobals "_law_is_int" = some (some (.ref f__law_is_int)))
    (l__law_is_int : K.lookup f__law_is_int = some ⟨oc__law_is_int, od__law_is_int, .func (PySem.W.fnOf "_law_is_int" "_law_is_int" (defArgs s__law_is_int) (defBody s__law_is_int) (defScope s__law_is_int) .none kV__law_is_int dc__law_is_int pm__law_is_int an__law_is_int cd__law_is_int ct__law_is_int), sl__law_is_int⟩)
    (c__law_is_int : PySem.W.codeIn K cd__law_is_int "_law_is_int" = true)
    (k__law_is_int : PySem.W.keepIn K (.ref f__law_is_int) = true)
    (a__law_same : PySem.W.nsIn K mainGlobals "_law_same" = some (some (.ref f__law_same)))
    (l__law_same : K.lookup f__law_same = some ⟨oc__law_same, od__law_same, .func (PySem.W.fnOf "_law_same" "_law_same" (defArgs s__law_same) (defBody s__law_same) (defScope s__law_same) .none kV__law_same dc__law_same pm__law_same an__law_same cd__law_same ct__law_same), sl__law_same⟩)
    (c__law_same : PySem.W.codeIn K cd__law_same "_law_same" = true)
    (k__law_same : PySem.W.keepIn K (.ref f__law_same) = true)
    (a__law_same_lot : PySem.W.nsIn K mainGlobals "_law_same_lot" = some (some (.ref f__law_same_lot)))
    (l__law_same_lot : K.lookup f__law_same_lot = some ⟨oc__law_same_lot, od__law_same_lot, .func (PySem.W.fnOf "_law_same_lot" "_law_same_lot" (defArgs s__law_same_lot) (defBody s__law_same_lot) (defScope s__law_same_lot) .none kV__law_same_lot dc__law_same_lot pm__law_same_lot an__law_same_lot cd__law_same_lot ct__law_same_lot), sl__law_same_lot⟩)
    (c__law_same_lot : PySem.W.codeIn K cd__law_same_lot "_law_same_lot" = true)
    (k__law_same_lot : PySem.W.keepIn K (.ref f__law_same_lot) = true)
    (a__law_holds : PySem.W.nsIn K mainGlobals "_law_holds" = some (some (.ref f__law_holds)))
    (l__law_holds : K.lookup f__law_holds = some ⟨oc__law_holds, od__law_holds, .func (PySem.W.fnOf "_law_holds" "_law_holds" (defArgs s__law_holds) (defBody s__law_holds) (defScope s__law_holds) .none kV__law_holds dc__law_holds pm__law_holds an__law_holds cd__law_holds ct__law_holds), sl__law_holds⟩)
    (c__law_holds : PySem.W.codeIn K cd__law_holds "_law_holds" = true)
    (k__law_holds : PySem.W.keepIn K (.ref f__law_holds) = true)
    (a__law_sold : PySem.W.nsIn K mainGlobals "_law_sold" = some (some (.ref f__law_sold)))
    (l__law_sold : K.lookup f__law_sold = some ⟨oc__law_sold, od__law_sold, .func (PySem.W.fnOf "_law_sold" "_law_sold" (defArgs s__law_sold) (defBody s__law_sold) (defScope s__law_sold) .none kV__law_sold dc__law_sold pm__law_sold an__law_sold cd__law_sold ct__law_sold), sl__law_sold⟩)
    (c__law_sold : PySem.W.codeIn K cd__law_sold "_law_sold" = true)
    (k__law_sold : PySem.W.keepIn K (.ref f__law_sold) = true)
    (a__law_sold_ones : PySem.W.nsIn K mainGlobals "_law_sold_ones" = some (some (.ref f__law_sold_ones)))
    (l__law_sold_ones : K.lookup f__law_sold_ones = some ⟨oc__law_sold_ones, od__law_sold_ones, .func (PySem.W.fnOf "_law_sold_ones" "_law_sold_ones" (defArgs s__law_sold_ones) (defBody s__law_sold_ones) (defScope s__law_sold_ones) .none kV__law_sold_ones dc__law_sold_ones pm__law_sold_ones an__law_sold_ones cd__law_sold_ones ct__law_sold_ones), sl__law_sold_ones⟩)
    (c__law_sold_ones : PySem.W.codeIn K cd__law_sold_ones "_law_sold_ones" = true)
    (k__law_sold_ones : PySem.W.keepIn K (.ref f__law_sold_ones) = true)
    (a__law_chance : PySem.W.nsIn K mainGlobals "_law_chance" = some (some (.ref f__law_chance)))
    (l__law_chance : K.lookup f__law_chance = some ⟨oc__law_chance, od__law_chance, .func (PySem.W.fnOf "_law_chance" "_law_chance" (defArgs s__law_chance) (defBody s__law_chance) (defScope s__law_chance) .none kV__law_chance dc__law_chance pm__law_chance an__law_chance cd__law_chance ct__law_chance), sl__law_chance⟩)
    (c__law_chance : PySem.W.codeIn K cd__law_chance "_law_chance" = true)
    (k__law_chance : PySem.W.keepIn K (.ref f__law_chance) = true)
    (a__law_numbers_of : PySem.W.nsIn K mainGlobals "_law_numbers_of" = some (some (.ref f__law_numbers_of)))
    (l__law_numbers_of : K.lookup f__law_numbers_of = some ⟨oc__law_numbers_of, od__law_numbers_of, .func (PySem.W.fnOf "_law_numbers_of" "_law_numbers_of" (defArgs s__law_numbers_of) (defBody s__law_numbers_of) (defScope s__law_numbers_of) .none kV__law_numbers_of dc__law_numbers_of pm__law_numbers_of an__law_numbers_of cd__law_numbers_of ct__law_numbers_of), sl__law_numbers_of⟩)
    (c__law_numbers_of : PySem.W.codeIn K cd__law_numbers_of "_law_numbers_of" = true)
    (k__law_numbers_of : PySem.W.keepIn K (.ref f__law_numbers_of) = true)
    (a_law : PySem.W.nsIn K mainGlobals "law" = some (some (.ref f_law)))
    (l_law : K.lookup f_law = some ⟨oc_law, od_law, .func (PySem.W.fnOf "law" "law" (defArgs s_law) (defBody s_law) (defScope s_law) .none kV_law dc_law pm_law an_law cd_law ct_law), sl_law⟩)
    (c_law : PySem.W.codeIn K cd_law "law" = true)
    (k_law : PySem.W.keepIn K (.ref f_law) = true)
    (a_le : PySem.W.nsIn K mainGlobals "learned" = some (some (.ref f_le)))
    (l_le : K.lookup f_le = some ⟨oc_le, od_le, .func (PySem.W.fnOf "learned" "learned" (defArgs s_learned) (defBody s_learned) (defScope s_learned) .none (.ref dK_le) dc_le pm_le an_le cd_le ct_le), sl_le⟩)
    (c_le : PySem.W.codeIn K cd_le "learned" = true)
    (k_le : PySem.W.keepIn K (.ref f_le) = true)
    (t_le : PySem.W.nsIn K dK_le "rounds" = some (some (.int 1 tk_le)))
    : ∃ fd : FuncData, (∀ (s : Shared) (v : Value), BindsTo s fd ⟨[v], []⟩ [("_law_script", v)]) ∧ ∀ base : Heap, K.In base → base.Ns mainGlobals mg → base.NoSeer → FnOk l.prog w K mg base CX0 47 fa fd ["_law_script"] (spLaw K) := by
  have T : Tx K mg R W S := { clR := ⟨pgR, hdR, poR, saR⟩, clW := ⟨pgW, hdW, poW, saW⟩, clS := ⟨pgS, hdS, poS, saS⟩, rTop := naR_top, rBot := naR_bottom, wMany := naW_many, wWei := naW_weights, wAs := naW_aside, sMany := naS_many, sRec := naS_records, mgR := PySem.W.mg_of X G a_R, mgW := PySem.W.mg_of X G a_W, mgS := PySem.W.mg_of X G a_S, wMost := ⟨_, moW, ⟨_, rfl⟩, mgW, (by decide)⟩, sMost := ⟨_, moS, ⟨_, rfl⟩, mgS, (by decide)⟩, tyR := fun _ _ _ _ e => .ins e ⟨pgR, hdR, poR, saR⟩ clR sc1 sc2 mrR, tyW := fun _ _ _ _ e => .ins e ⟨pgW, hdW, poW, saW⟩ clW sc1 sc2 mrW, kRi := kit_int suR, kRR := if_pos (beq_self_eq_true _), kWW := if_pos (beq_self_eq_true _), gcd := PySem.W.mg_of X G a_gcd, lcm := PySem.W.mg_of X G a_lcm, mr := ⟨_, PySem.W.mg_of X G a_mr⟩, len := PySem.W.mg_none_of X G n_len, range := PySem.W.mg_none_of X G n_range, sum := PySem.W.mg_none_of X G n_sum, any := PySem.W.mg_none_of X G n_any, list := PySem.W.mg_none_of X G n_list, tuple := PySem.W.mg_none_of X G n_tuple, enumerate := PySem.W.mg_none_of X G n_enumerate, zip := PySem.W.mg_none_of X G n_zip, isinstance := PySem.W.mg_none_of X G n_isinstance, int := PySem.W.mg_none_of X G n_int, bool := PySem.W.mg_none_of X G n_bool }
  have F_ri : FunD K "__init__" "Ratio.__init__" (defArgs s_Ratio_init) (defBody s_Ratio_init) (defScope s_Ratio_init) [.int 1] [] f_ri _ := ⟨⟨_, _, _, _, _, _, _, _, _, _, rfl, l_ri, c_ri, .inr ⟨(fun z => nomatch z), _, _, _, _, rfl, t_ri, rfl, .cons ⟨_, rfl⟩ .nil⟩, .inl rfl⟩, k_ri⟩
  obtain ⟨d1, v1, b1⟩ := F_ri.binds1 (ps := ["self", "top", "bottom"]) 2 0 (fun z => nomatch z) rfl fun T kV doc pm an cdv ct us its hu hi => match us, its, hu, hi with | [_, _], [_], _, _ => ⟨_, rfl, rfl⟩
  obtain ⟨d2, v2, b2⟩ := F_ri.binds1 (ps := ["self", "top", "bottom"]) 3 1 (fun z => nomatch z) rfl fun T kV doc pm an cdv ct us its hu hi => match us, its, hu, hi with | [_, _, _], [_], _, _ => ⟨_, rfl, rfl⟩
  have F_ra := fun_mk (st := s_Ratio_add) l_ra c_ra k_ra
  have b_ra := F_ra.binds (ps := ["self", "other"]) fun _ _ _ _ _ _ us hl => match us, hl with | [_, _], _ => rfl
  have F_rs := fun_mk (st := s_Ratio_sub) l_rs c_rs k_rs
  have b_rs := F_rs.binds (ps := ["self", "other"]) fun _ _ _ _ _ _ us hl => match us, hl with | [_, _], _ => rfl
  have F_ro := fun_mk (st := s_Ratio_over) l_ro c_ro k_ro
  have b_ro := F_ro.binds (ps := ["self", "other"]) fun _ _ _ _ _ _ us hl => match us, hl with | [_, _], _ => rfl
  have F_qi := fun_mk (st := s_Rule_init) l_qi c_qi k_qi
  have b_qi := F_qi.binds (ps := ["self", "many"]) fun _ _ _ _ _ _ us hl => match us, hl with | [_, _], _ => rfl
  have F_qs := fun_mk (st := s_Rule_shares) l_qs c_qs k_qs
  have b_qs := F_qs.binds (ps := ["self", "lot"]) fun _ _ _ _ _ _ us hl => match us, hl with | [_, _], _ => rfl
  have U_wi : Sup l.prog K "__init__" "Weighted.__init__" s_Weighted_init f_wi _ cda_wi cc_wi W := ⟨⟨_, _, _, _, _, _, _, _, rfl, l_wi⟩, c_wi, ⟨_, _, _, e_wi⟩, ⟨_, _, _, _, _, r_wi, t_wi⟩, k_wi⟩
  have U_ws : Sup l.prog K "shares" "Weighted.shares" s_Weighted_shares f_ws _ cda_ws cc_ws W := ⟨⟨_, _, _, _, _, _, _, _, rfl, l_ws⟩, c_ws, ⟨_, _, _, e_ws⟩, ⟨_, _, _, _, _, r_ws, t_ws⟩, k_ws⟩
  have F_wt := fun_mk (st := s_Weighted_total_of) l_wt c_wt k_wt
  have b_wt := F_wt.binds (ps := ["self", "lot"]) fun _ _ _ _ _ _ us hl => match us, hl with | [_, _], _ => rfl
  have F_wa := fun_mk (st := s_Rule_away) l_wa c_wa k_wa
  have b_wa := F_wa.binds (ps := ["self", "lot"]) fun _ _ _ _ _ _ us hl => match us, hl with | [_, _], _ => rfl
  have F_wr := fun_mk (st := s_Weighted_reduced) l_wr c_wr k_wr
  have b_wr := F_wr.binds (ps := ["self"]) fun _ _ _ _ _ _ us hl => match us, hl with | [_], _ => rfl
  have F_si : FunD K "__init__" "SalesBook.__init__" (defArgs s_SalesBook_init) (defBody s_SalesBook_init) (defScope s_SalesBook_init) [.ref dU_si] [] f_si _ := ⟨⟨_, _, _, _, _, _, _, _, _, _, rfl, l_si, c_si, .inr ⟨(fun z => nomatch z), _, _, _, _, rfl, t_si, rfl, .cons rfl .nil⟩, .inl rfl⟩, k_si⟩
  obtain ⟨d3, v3, b3⟩ := F_si.binds1 (ps := ["self", "many", "records"]) 3 1 (fun z => nomatch z) rfl fun T kV doc pm an cdv ct us its hu hi => match us, its, hu, hi with | [_, _, _], [_], _, _ => ⟨_, rfl, rfl⟩
  have F_so := fun_mk (st := s_SalesBook_sold_of) l_so c_so k_so
  have b_so := F_so.binds (ps := ["self", "thing"]) fun _ _ _ _ _ _ us hl => match us, hl with | [_, _], _ => rfl
  have F_sl := fun_mk (st := s_SalesBook_len) l_sl c_sl k_sl
  have b_sl := F_sl.binds (ps := ["self"]) fun _ _ _ _ _ _ us hl => match us, hl with | [_], _ => rfl
  have F_st := fun_mk (st := s_SalesBook_iter) l_st c_st k_st
  have b_st := F_st.binds (ps := ["self"]) fun _ _ _ _ _ _ us hl => match us, hl with | [_], _ => rfl
  have F_check_lot := fun_mk (st := s_check_lot) l_check_lot c_check_lot k_check_lot
  have b_check_lot := F_check_lot.binds (ps := ["lot", "many"]) fun _ _ _ _ _ _ us hl => match us, hl with | [_, _], _ => rfl
  have F_check_alike := fun_mk (st := s_check_alike) l_check_alike c_check_alike k_check_alike
  have b_check_alike := F_check_alike.binds (ps := ["rule", "book"]) fun _ _ _ _ _ _ us hl => match us, hl with | [_, _], _ => rfl
  have F_likelihood := fun_mk (st := s_likelihood) l_likelihood c_likelihood k_likelihood
  have b_likelihood := F_likelihood.binds (ps := ["rule", "book"]) fun _ _ _ _ _ _ us hl => match us, hl with | [_, _], _ => rfl
  have F_shown_things := fun_mk (st := s_shown_things) l_shown_things c_shown_things k_shown_things
  have b_shown_things := F_shown_things.binds (ps := ["book"]) fun _ _ _ _ _ _ us hl => match us, hl with | [_], _ => rfl
  have F_whole_rule := fun_mk (st := s_whole_rule) l_whole_rule c_whole_rule k_whole_rule
  have b_whole_rule := F_whole_rule.binds (ps := ["weights", "aside"]) fun _ _ _ _ _ _ us hl => match us, hl with | [_, _], _ => rfl
  have F_one_round := fun_mk (st := s_one_round) l_one_round c_one_round k_one_round
  have b_one_round := F_one_round.binds (ps := ["rule", "book", "shown"]) fun _ _ _ _ _ _ us hl => match us, hl with | [_, _, _], _ => rfl
  have F_checked_record := fun_mk (st := s_checked_record) l_checked_record c_checked_record k_checked_record
  have b_checked_record := F_checked_record.binds (ps := ["many", "record"]) fun _ _ _ _ _ _ us hl => match us, hl with | [_, _], _ => rfl
  have F__law_cell := fun_mk (st := s__law_cell) l__law_cell c__law_cell k__law_cell
  have b__law_cell := F__law_cell.binds (ps := ["_law_script", "_law_place"]) fun _ _ _ _ _ _ us hl => match us, hl with | [_, _], _ => rfl
  have F__law_draws := fun_mk (st := s__law_draws) l__law_draws c__law_draws k__law_draws
  have b__law_draws := F__law_draws.binds (ps := ["_law_cell_here", "_law_sizes"]) fun _ _ _ _ _ _ us hl => match us, hl with | [_, _], _ => rfl
  have F__law_row := fun_mk (st := s__law_row) l__law_row c__law_row k__law_row
  have b__law_row := F__law_row.binds (ps := ["_law_cell_here", "_law_count"]) fun _ _ _ _ _ _ us hl => match us, hl with | [_, _], _ => rfl
  have F__law_ups := fun_mk (st := s__law_ups) l__law_ups c__law_ups k__law_ups
  have b__law_ups := F__law_ups.binds (ps := ["_law_row_here"]) fun _ _ _ _ _ _ us hl => match us, hl with | [_], _ => rfl
  have F__law_lot := fun_mk (st := s__law_lot) l__law_lot c__law_lot k__law_lot
  have b__law_lot := F__law_lot.binds (ps := ["_law_bits", "_law_many"]) fun _ _ _ _ _ _ us hl => match us, hl with | [_, _], _ => rfl
  have F__law_records := fun_mk (st := s__law_records) l__law_records c__law_records k__law_records
  have b__law_records := F__law_records.binds (ps := ["_law_script", "_law_place", "_law_many", "_law_count", "_law_lift", "_law_bound"]) fun _ _ _ _ _ _ us hl => match us, hl with | [_, _, _, _, _, _], _ => rfl
  have F__law_book := fun_mk (st := s__law_book) l__law_book c__law_book k__law_book
  have b__law_book := F__law_book.binds (ps := ["_law_many", "_law_records_here"]) fun _ _ _ _ _ _ us hl => match us, hl with | [_, _], _ => rfl
  have F__law_is_int := fun_mk (st := s__law_is_int) l__law_is_int c__law_is_int k__law_is_int
  have b__law_is_int := F__law_is_int.binds (ps := ["_law_x"]) fun _ _ _ _ _ _ us hl => match us, hl with | [_], _ => rfl
  have F__law_same := fun_mk (st := s__law_same) l__law_same c__law_same k__law_same
  have b__law_same := F__law_same.binds (ps := ["_law_x", "_law_top", "_law_bottom"]) fun _ _ _ _ _ _ us hl => match us, hl with | [_, _, _], _ => rfl
  have F__law_same_lot := fun_mk (st := s__law_same_lot) l__law_same_lot c__law_same_lot k__law_same_lot
  have b__law_same_lot := F__law_same_lot.binds (ps := ["_law_x", "_law_due"]) fun _ _ _ _ _ _ us hl => match us, hl with | [_, _], _ => rfl
  have F__law_holds := fun_mk (st := s__law_holds) l__law_holds c__law_holds k__law_holds
  have b__law_holds := F__law_holds.binds (ps := ["_law_book_here", "_law_due"]) fun _ _ _ _ _ _ us hl => match us, hl with | [_, _], _ => rfl
  have F__law_sold := fun_mk (st := s__law_sold) l__law_sold c__law_sold k__law_sold
  have b__law_sold := F__law_sold.binds (ps := ["_law_records_here", "_law_thing"]) fun _ _ _ _ _ _ us hl => match us, hl with | [_, _], _ => rfl
  have F__law_sold_ones := fun_mk (st := s__law_sold_ones) l__law_sold_ones c__law_sold_ones k__law_sold_ones
  have b__law_sold_ones := F__law_sold_ones.binds (ps := ["_law_records_here"]) fun _ _ _ _ _ _ us hl => match us, hl with | [_], _ => rfl
  have F__law_chance := fun_mk (st := s__law_chance) l__law_chance c__law_chance k__law_chance
  have b__law_chance := F__law_chance.binds (ps := ["_law_numbers", "_law_records_here", "_law_many"]) fun _ _ _ _ _ _ us hl => match us, hl with | [_, _, _], _ => rfl
  have F__law_numbers_of := fun_mk (st := s__law_numbers_of) l__law_numbers_of c__law_numbers_of k__law_numbers_of
  have b__law_numbers_of := F__law_numbers_of.binds (ps := ["_law_rule", "_law_many"]) fun _ _ _ _ _ _ us hl => match us, hl with | [_, _], _ => rfl
  have F_law := fun_mk (st := s_law) l_law c_law k_law
  have F_le : FunD K "learned" "learned" (defArgs s_learned) (defBody s_learned) (defScope s_learned) [] [("rounds", .int 1)] f_le _ := ⟨⟨_, _, _, _, _, _, _, _, _, _, rfl, l_le, c_le, .inl ⟨rfl, rfl⟩, .inr ⟨_, rfl, fun q hq => by
    cases List.mem_singleton.mp hq
    exact ⟨_, t_le, ⟨_, rfl⟩⟩⟩⟩, k_le⟩
  obtain ⟨mv, kb⟩ := F_le.kbinds0 (ps := ["rule", "book", "rounds"]) 2 ["rounds"] [] (fun us _ ws => us ++ ws) (fun z => nomatch z) (fun q hq => nomatch hq) (fun h1 _ h3 => h1.append h3) fun D doc pm an cdv ct us mv ws h1 h2 h3 => match us, ws, h1, h3 with | [_, _], [_], _, _ => rfl
  have e := hfa.symm.trans (PySem.W.mg_of X G a_law)
  cases e
  refine ⟨PySem.W.fnOf "law" "law" (defArgs s_law) (defBody s_law) (defScope s_law) .none kV_law dc_law pm_law an_law cd_law ct_law, fun s v => .of_eq rfl, fun base hK hN hs => ?_⟩
  have ar : Ar l.prog base := ⟨hs, htree⟩
  have oRi : FnOk l.prog w K mg base CX0 41 f_ri _ ["self", "top", "bottom"] (spRat R) := ok_Ratio_init T ar F_ri
  have hR1 : HR1 l.prog w K mg base R := ⟨_, _, _, T.mgR, ⟨mkR, a_ri, i_ri, kcR⟩, b1, v1, oRi⟩
  have hR2 : HR2 l.prog w K mg base R := ⟨_, _, _, T.mgR, ⟨mkR, a_ri, i_ri, kcR⟩, (by cases v2; exact b2), .nil, oRi⟩
  have hadd : HasO l.prog w K mg base 43 R .Add ["self", "other"] (spAdd R) := ⟨_, _, sfR, a_ra, i_ra, b_ra, ok_Ratio_add T hR2 F_ra⟩
  have hsub : HasO l.prog w K mg base 43 R .Sub ["self", "other"] (spSub R) := ⟨_, _, sfR, a_rs, i_rs, b_rs, ok_Ratio_sub T hR2 F_rs⟩
  have hR_over : HasM l.prog w K mg base 43 R "over" ["self", "other"] (spOver R) := ⟨_, _, ⟨a_ro, i_ro, k_ro⟩, b_ro, ok_Ratio_over T hR2 F_ro⟩
  have h_check_lot : Has l.prog w K mg base 1 "check_lot" ["lot", "many"] [] spCheck := ⟨_, _, _, PySem.W.mg_of X G a_check_lot, k_check_lot, b_check_lot, .nil, ok_check_lot F_check_lot⟩
  have hsup := PySem.W.mg_none_of X G n_super
  have B_i : SupC K mg W W "__init__" f_qi := ⟨⟨_, clsW⟩, subW, u1, i_qi, fk_qi, noOp, hsup⟩
  have B_s : SupC K mg W W "shares" f_qs := ⟨⟨_, clsW⟩, subW, u2, i_qs, fk_qs, noOp, hsup⟩
  obtain ⟨oWi, b_wi⟩ := ok_Weighted_init (P := l.prog) (w := w) (base := base) T htop U_wi B_i (ok_Rule_init T F_qi) b_qi
  have hW : HasC l.prog w K mg base 2 "Weighted" W ["self", "weights", "aside"] [] (spWInit W) := ⟨_, _, _, T.mgW, ⟨mkW, a_wi, i_wi, kcW⟩, b_wi, .nil, oWi⟩
  have hW_total_of : HasM l.prog w K mg base 1 W "total_of" ["self", "lot"] (spTotal W) := ⟨_, _, ⟨a_wt, i_wt, k_wt⟩, b_wt, ok_Weighted_total_of T F_wt⟩
  obtain ⟨oWs, b_ws⟩ := ok_Weighted_shares (P := l.prog) (w := w) (base := base) T htop hR2 hW_total_of U_ws B_s (ok_Rule_shares T hR1 h_check_lot F_qs) b_qs
  have hW_shares : HasM l.prog w K mg base 44 W "shares" ["self", "lot"] (spShares R W) := ⟨_, _, ⟨a_ws, i_ws, k_ws⟩, b_ws, oWs⟩
  have hW_away : HasM l.prog w K mg base 45 W "away" ["self", "lot"] (spAway R W) := ⟨_, _, ⟨a_wa, i_wa, k_wa⟩, b_wa, ok_Rule_away T hR1 hsub hW_shares F_wa⟩
  have hW_reduced : HasM l.prog w K mg base 33 W "reduced" ["self"] (spReduced W) := ⟨_, _, ⟨a_wr, i_wr, k_wr⟩, b_wr, ok_Weighted_reduced T ar hW F_wr⟩
  have IB : ItB K mg S f_st _ s_SalesBook_iter := ⟨T.clS, T.sRec, a_st, i_st, F_st, sc_SalesBook_iter, b_st, PySem.W.mg_none_of X G n_iter⟩
  have IT : ItT s_SalesBook_iter := ⟨⟨_, _, _, _, _, rfl⟩, rfl, rfl⟩
  have h_check_alike : Has l.prog w K mg base 1 "check_alike" ["rule", "book"] [] (spAlike W S) := ⟨_, _, _, PySem.W.mg_of X G a_check_alike, k_check_alike, b_check_alike, .nil, ok_check_alike T F_check_alike⟩
  have h_checked_record : Has l.prog w K mg base 2 "checked_record" ["many", "record"] [] spRecord := ⟨_, _, _, PySem.W.mg_of X G a_checked_record, k_checked_record, b_checked_record, .nil, ok_checked_record T h_check_lot F_checked_record⟩
  have hS : HasC l.prog w K mg base 3 "SalesBook" S ["self", "many", "records"] [] (spBook S) := ⟨_, _, _, T.mgS, ⟨mkS, a_si, i_si, kcS⟩, (by cases v3; exact b3), .nil, ok_SalesBook_init T h_checked_record F_si⟩
  have hS_sold_of : HasM l.prog w K mg base 1 S "sold_of" ["self", "thing"] (spSold S) := ⟨_, _, ⟨a_so, i_so, k_so⟩, b_so, ok_SalesBook_sold_of T F_so⟩
  have h_shown_things : Has l.prog w K mg base 2 "shown_things" ["book"] [] (spShown S) := ⟨_, _, _, PySem.W.mg_of X G a_shown_things, k_shown_things, b_shown_things, .nil, ok_shown_things T IB IT F_shown_things⟩
  have h_whole_rule : Has l.prog w K mg base 34 "whole_rule" ["weights", "aside"] [] (spWhole R W) := ⟨_, _, _, PySem.W.mg_of X G a_whole_rule, k_whole_rule, b_whole_rule, .nil, ok_whole_rule T ar hW hW_reduced F_whole_rule⟩
  have h_one_round : Has l.prog w K mg base 44 "one_round" ["rule", "book", "shown"] [] (spRound R W S) := ⟨_, _, _, PySem.W.mg_of X G a_one_round, k_one_round, b_one_round, .nil, ok_one_round T IB IT hR1 hR2 hadd hR_over hW_total_of hS_sold_of h_whole_rule F_one_round⟩
  have hL : HasL l.prog w K mg base W S := ⟨_, _, PySem.W.mg_of X G a_le, k_le, kb, ok_learned T hW_reduced hS_sold_of h_check_alike h_shown_things h_one_round F_le⟩
  have h_likelihood : Has l.prog w K mg base 46 "likelihood" ["rule", "book"] [] (spLik R W S) := ⟨_, _, _, PySem.W.mg_of X G a_likelihood, k_likelihood, b_likelihood, .nil, ok_likelihood T IB IT hR2 hW_shares hW_away h_check_alike F_likelihood⟩
  have h_law_cell : Has l.prog w K mg base 1 "_law_cell" ["_law_script", "_law_place"] [] (spCell K) := ⟨_, _, _, PySem.W.mg_of X G a__law_cell, k__law_cell, b__law_cell, .nil, ok_law_cell T F__law_cell⟩
  have h_law_draws : Has l.prog w K mg base 33 "_law_draws" ["_law_cell_here", "_law_sizes"] [] spDraws := ⟨_, _, _, PySem.W.mg_of X G a__law_draws, k__law_draws, b__law_draws, .nil, ok_law_draws T ar F__law_draws⟩
  have h_law_row : Has l.prog w K mg base 34 "_law_row" ["_law_cell_here", "_law_count"] [] spRow := ⟨_, _, _, PySem.W.mg_of X G a__law_row, k__law_row, b__law_row, .nil, ok_law_row T h_law_draws F__law_row⟩
  have h_law_ups : Has l.prog w K mg base 1 "_law_ups" ["_law_row_here"] [] spUps := ⟨_, _, _, PySem.W.mg_of X G a__law_ups, k__law_ups, b__law_ups, .nil, ok_law_ups T F__law_ups⟩
  have h_law_lot : Has l.prog w K mg base 33 "_law_lot" ["_law_bits", "_law_many"] [] spLot := ⟨_, _, _, PySem.W.mg_of X G a__law_lot, k__law_lot, b__law_lot, .nil, ok_law_lot T ar F__law_lot⟩
  have h_law_records : Has l.prog w K mg base 34 "_law_records" ["_law_script", "_law_place", "_law_many", "_law_count", "_law_lift", "_law_bound"] [] (spRecords K) := ⟨_, _, _, PySem.W.mg_of X G a__law_records, k__law_records, b__law_records, .nil, ok_law_records T h_law_cell h_law_draws h_law_lot F__law_records⟩
  have h_law_sold : Has l.prog w K mg base 1 "_law_sold" ["_law_records_here", "_law_thing"] [] spSoldL := ⟨_, _, _, PySem.W.mg_of X G a__law_sold, k__law_sold, b__law_sold, .nil, ok_law_sold T F__law_sold⟩
  have h_law_sold_ones : Has l.prog w K mg base 2 "_law_sold_ones" ["_law_records_here"] [] spKept := ⟨_, _, _, PySem.W.mg_of X G a__law_sold_ones, k__law_sold_ones, b__law_sold_ones, .nil, ok_law_sold_ones T h_law_sold F__law_sold_ones⟩
  have h_law_book : Has l.prog w K mg base 5 "_law_book" ["_law_many", "_law_records_here"] [] (spLawBook S) := ⟨_, _, _, PySem.W.mg_of X G a__law_book, k__law_book, b__law_book, .nil, ok_law_book T hS F__law_book⟩
  have h_law_is_int : Has l.prog w K mg base 1 "_law_is_int" ["_law_x"] [] spIsInt := ⟨_, _, _, PySem.W.mg_of X G a__law_is_int, k__law_is_int, b__law_is_int, .nil, ok_law_is_int T F__law_is_int⟩
  have h_law_same : Has l.prog w K mg base 2 "_law_same" ["_law_x", "_law_top", "_law_bottom"] [] (spSame R) := ⟨_, _, _, PySem.W.mg_of X G a__law_same, k__law_same, b__law_same, .nil, ok_law_same T h_law_is_int F__law_same⟩
  have h_law_same_lot : Has l.prog w K mg base 2 "_law_same_lot" ["_law_x", "_law_due"] [] (spSameLot K) := ⟨_, _, _, PySem.W.mg_of X G a__law_same_lot, k__law_same_lot, b__law_same_lot, .nil, ok_law_same_lot T h_law_is_int F__law_same_lot⟩
  have h_law_holds : Has l.prog w K mg base 7 "_law_holds" ["_law_book_here", "_law_due"] [] (spHolds S) := ⟨_, _, _, PySem.W.mg_of X G a__law_holds, k__law_holds, b__law_holds, .nil, ok_law_holds T IB IT a_sl i_sl (ok_SalesBook_len T F_sl) b_sl h_law_same_lot F__law_holds⟩
  have h_law_chance : Has l.prog w K mg base 1 "_law_chance" ["_law_numbers", "_law_records_here", "_law_many"] [] spChance := ⟨_, _, _, PySem.W.mg_of X G a__law_chance, k__law_chance, b__law_chance, .nil, ok_law_chance T F__law_chance⟩
  have h_law_numbers_of : Has l.prog w K mg base 2 "_law_numbers_of" ["_law_rule", "_law_many"] [] (spNumbers W) := ⟨_, _, _, PySem.W.mg_of X G a__law_numbers_of, k__law_numbers_of, b__law_numbers_of, .nil, ok_law_numbers_of T h_law_is_int F__law_numbers_of⟩
  exact ok_law T h_law_cell h_law_draws h_law_row h_law_ups h_law_records h_law_sold_ones hW h_law_book hL h_law_numbers_of h_law_chance h_likelihood h_law_same h_law_same_lot h_law_holds F_law
end Dl

open PySem PySem.W PyProof.Rows
set_option maxRecDepth 100000 in
set_option maxHeartbeats 0 in
theorem PySem.Challenge.cw_dearestshelf_k71_whole_learning_never_le_holds : PySem.Challenge.rw_dearestshelf_k71_whole_learning_never_le.Holds := by
  w_on; o_law; k_head; (case hw => w_witness2)
  k_fill
  refine Dl.walk (l := PySem.Challenge.rw_dearestshelf_k71_whole_learning_never_le) rfl rfl (by decide +kernel) (fun w h Y => PySem.W.kIn_of Y) ?F
  case F =>
    intro w mg fa h KX G hmg
    refine' Dl.all_mk KX G hmg rfl (by decide +kernel) ?a_R ?a_W ?a_S ?pgR ?hdR ?poR ?saR ?mkR ?kcR ?pgW ?hdW ?poW ?saW ?mkW ?kcW ?pgS ?hdS ?poS ?saS ?mkS ?kcS ?naR_top ?naR_bottom ?naW_many ?naW_weights ?naW_aside ?naS_many ?naS_records ?moW ?mgW ?moS ?mgS ?suR ?clR ?mrR ?clW ?mrW ?sc1 ?sc2 ?a_gcd ?a_lcm ?a_mr ?n_len ?n_range ?n_sum ?n_any ?n_list ?n_tuple ?n_enumerate ?n_zip ?n_isinstance ?n_int ?n_bool ?n_iter ?n_super ?a_ri ?i_ri ?l_ri ?c_ri ?k_ri ?t_ri ?a_ra ?i_ra ?l_ra ?c_ra ?k_ra ?a_rs ?i_rs ?l_rs ?c_rs ?k_rs ?a_ro ?i_ro ?l_ro ?c_ro ?k_ro ?sfR ?u1 ?i_qi ?fk_qi ?l_qi ?c_qi ?k_qi ?u2 ?i_qs ?fk_qs ?l_qs ?c_qs ?k_qs ?clsW ?subW ?noOp ?a_wi ?i_wi ?l_wi ?c_wi ?k_wi ?e_wi ?r_wi ?t_wi ?a_ws ?i_ws ?l_ws ?c_ws ?k_ws ?e_ws ?r_ws ?t_ws ?a_wt ?i_wt ?l_wt ?c_wt ?k_wt ?a_wa ?i_wa ?l_wa ?c_wa ?k_wa ?a_wr ?i_wr ?l_wr ?c_wr ?k_wr ?a_si ?i_si ?l_si ?c_si ?k_si ?t_si ?a_so ?i_so ?l_so ?c_so ?k_so ?a_sl ?i_sl ?l_sl ?c_sl ?k_sl ?a_st ?i_st ?l_st ?c_st ?k_st ?a_check_lot ?l_check_lot ?c_check_lot ?k_check_lot ?a_check_alike ?l_check_alike ?c_check_alike ?k_check_alike ?a_likelihood ?l_likelihood ?c_likelihood ?k_likelihood ?a_shown_things ?l_shown_things ?c_shown_things ?k_shown_things ?a_whole_rule ?l_whole_rule ?c_whole_rule ?k_whole_rule ?a_one_round ?l_one_round ?c_one_round ?k_one_round ?a_checked_record ?l_checked_record ?c_checked_record ?k_checked_record ?a__law_cell ?l__law_cell ?c__law_cell ?k__law_cell ?a__law_draws ?l__law_draws ?c__law_draws ?k__law_draws ?a__law_row ?l__law_row ?c__law_row ?k__law_row ?a__law_ups ?l__law_ups ?c__law_ups ?k__law_ups ?a__law_lot ?l__law_lot ?c__law_lot ?k__law_lot ?a__law_records ?l__law_records ?c__law_records ?k__law_records ?a__law_book ?l__law_book ?c__law_book ?k__law_book ?a__law_is_int ?l__law_is_int ?c__law_is_int ?k__law_is_int ?a__law_same ?l__law_same ?c__law_same ?k__law_same ?a__law_same_lot ?l__law_same_lot ?c__law_same_lot ?k__law_same_lot ?a__law_holds ?l__law_holds ?c__law_holds ?k__law_holds ?a__law_sold ?l__law_sold ?c__law_sold ?k__law_sold ?a__law_sold_ones ?l__law_sold_ones ?c__law_sold_ones ?k__law_sold_ones ?a__law_chance ?l__law_chance ?c__law_chance ?k__law_chance ?a__law_numbers_of ?l__law_numbers_of ?c__law_numbers_of ?k__law_numbers_of ?a_law ?l_law ?c_law ?k_law ?a_le ?l_le ?c_le ?k_le ?t_le
    (case a_R => k_is)
    (case a_W => k_is)
    (case a_S => k_is)
    (case pgR => k_is)
    (case hdR => k_is)
    (case poR => k_is)
    (case saR => k_is)
    (case mkR => k_is)
    (case kcR => k_is)
    (case pgW => k_is)
    (case hdW => k_is)
    (case poW => k_is)
    (case saW => k_is)
    (case mkW => k_is)
    (case kcW => k_is)
    (case pgS => k_is)
    (case hdS => k_is)
    (case poS => k_is)
    (case saS => k_is)
    (case mkS => k_is)
    (case kcS => k_is)
    (case naR_top => k_is)
    (case naR_bottom => k_is)
    (case naW_many => k_is)
    (case naW_weights => k_is)
    (case naW_aside => k_is)
    (case naS_many => k_is)
    (case naS_records => k_is)
    (case moW => k_is)
    (case mgW => k_is)
    (case moS => k_is)
    (case mgS => k_is)
    (case suR => k_is)
    (case clR => k_is)
    (case mrR => k_is)
    (case clW => k_is)
    (case mrW => k_is)
    (case sc1 => k_is)
    (case sc2 => k_is)
    (case a_gcd => k_is)
    (case a_lcm => k_is)
    (case a_mr => k_is)
    (case n_len => k_is)
    (case n_range => k_is)
    (case n_sum => k_is)
    (case n_any => k_is)
    (case n_list => k_is)
    (case n_tuple => k_is)
    (case n_enumerate => k_is)
    (case n_zip => k_is)
    (case n_isinstance => k_is)
    (case n_int => k_is)
    (case n_bool => k_is)
    (case n_iter => k_is)
    (case n_super => k_is)
    (case a_ri => k_is)
    (case i_ri => k_is)
    (case l_ri => k_is)
    (case c_ri => k_is)
    (case k_ri => k_is)
    (case t_ri => k_is)
    (case a_ra => k_is)
    (case i_ra => k_is)
    (case l_ra => k_is)
    (case c_ra => k_is)
    (case k_ra => k_is)
    (case a_rs => k_is)
    (case i_rs => k_is)
    (case l_rs => k_is)
    (case c_rs => k_is)
    (case k_rs => k_is)
    (case a_ro => k_is)
    (case i_ro => k_is)
    (case l_ro => k_is)
    (case c_ro => k_is)
    (case k_ro => k_is)
    (case sfR => k_is)
    (case u1 => ks_is)
    (case i_qi => k_is)
    (case fk_qi => k_is)
    (case l_qi => k_is)
    (case c_qi => k_is)
    (case k_qi => k_is)
    (case u2 => ks_is)
    (case i_qs => k_is)
    (case fk_qs => k_is)
    (case l_qs => k_is)
    (case c_qs => k_is)
    (case k_qs => k_is)
    (case clsW => k_is)
    (case subW => k_is)
    (case noOp => k_is)
    (case a_wi => k_is)
    (case i_wi => k_is)
    (case l_wi => k_is)
    (case c_wi => k_is)
    (case k_wi => k_is)
    (case e_wi => k_is)
    (case r_wi => k_is)
    (case t_wi => rfl)
    (case a_ws => k_is)
    (case i_ws => k_is)
    (case l_ws => k_is)
    (case c_ws => k_is)
    (case k_ws => k_is)
    (case e_ws => k_is)
    (case r_ws => k_is)
    (case t_ws => rfl)
    (case a_wt => k_is)
    (case i_wt => k_is)
    (case l_wt => k_is)
    (case c_wt => k_is)
    (case k_wt => k_is)
    (case a_wa => k_is)
    (case i_wa => k_is)
    (case l_wa => k_is)
    (case c_wa => k_is)
    (case k_wa => k_is)
    (case a_wr => k_is)
    (case i_wr => k_is)
    (case l_wr => k_is)
    (case c_wr => k_is)
    (case k_wr => k_is)
    (case a_si => k_is)
    (case i_si => k_is)
    (case l_si => k_is)
    (case c_si => k_is)
    (case k_si => k_is)
    (case t_si => k_is)
    (case a_so => k_is)
    (case i_so => k_is)
    (case l_so => k_is)
    (case c_so => k_is)
    (case k_so => k_is)
    (case a_sl => k_is)
    (case i_sl => k_is)
    (case l_sl => k_is)
    (case c_sl => k_is)
    (case k_sl => k_is)
    (case a_st => k_is)
    (case i_st => k_is)
    (case l_st => k_is)
    (case c_st => k_is)
    (case k_st => k_is)
    (case a_check_lot => k_is)
    (case l_check_lot => k_is)
    (case c_check_lot => k_is)
    (case k_check_lot => k_is)
    (case a_check_alike => k_is)
    (case l_check_alike => k_is)
    (case c_check_alike => k_is)
    (case k_check_alike => k_is)
    (case a_likelihood => k_is)
    (case l_likelihood => k_is)
    (case c_likelihood => k_is)
    (case k_likelihood => k_is)
    (case a_shown_things => k_is)
    (case l_shown_things => k_is)
    (case c_shown_things => k_is)
    (case k_shown_things => k_is)
    (case a_whole_rule => k_is)
    (case l_whole_rule => k_is)
    (case c_whole_rule => k_is)
    (case k_whole_rule => k_is)
    (case a_one_round => k_is)
    (case l_one_round => k_is)
    (case c_one_round => k_is)
    (case k_one_round => k_is)
    (case a_checked_record => k_is)
    (case l_checked_record => k_is)
    (case c_checked_record => k_is)
    (case k_checked_record => k_is)
    (case a__law_cell => k_is)
    (case l__law_cell => k_is)
    (case c__law_cell => k_is)
    (case k__law_cell => k_is)
    (case a__law_draws => k_is)
    (case l__law_draws => k_is)
    (case c__law_draws => k_is)
    (case k__law_draws => k_is)
    (case a__law_row => k_is)
    (case l__law_row => k_is)
    (case c__law_row => k_is)
    (case k__law_row => k_is)
    (case a__law_ups => k_is)
    (case l__law_ups => k_is)
    (case c__law_ups => k_is)
    (case k__law_ups => k_is)
    (case a__law_lot => k_is)
    (case l__law_lot => k_is)
    (case c__law_lot => k_is)
    (case k__law_lot => k_is)
    (case a__law_records => k_is)
    (case l__law_records => k_is)
    (case c__law_records => k_is)
    (case k__law_records => k_is)
    (case a__law_book => k_is)
    (case l__law_book => k_is)
    (case c__law_book => k_is)
    (case k__law_book => k_is)
    (case a__law_is_int => k_is)
    (case l__law_is_int => k_is)
    (case c__law_is_int => k_is)
    (case k__law_is_int => k_is)
    (case a__law_same => k_is)
    (case l__law_same => k_is)
    (case c__law_same => k_is)
    (case k__law_same => k_is)
    (case a__law_same_lot => k_is)
    (case l__law_same_lot => k_is)
    (case c__law_same_lot => k_is)
    (case k__law_same_lot => k_is)
    (case a__law_holds => k_is)
    (case l__law_holds => k_is)
    (case c__law_holds => k_is)
    (case k__law_holds => k_is)
    (case a__law_sold => k_is)
    (case l__law_sold => k_is)
    (case c__law_sold => k_is)
    (case k__law_sold => k_is)
    (case a__law_sold_ones => k_is)
    (case l__law_sold_ones => k_is)
    (case c__law_sold_ones => k_is)
    (case k__law_sold_ones => k_is)
    (case a__law_chance => k_is)
    (case l__law_chance => k_is)
    (case c__law_chance => k_is)
    (case k__law_chance => k_is)
    (case a__law_numbers_of => k_is)
    (case l__law_numbers_of => k_is)
    (case c__law_numbers_of => k_is)
    (case k__law_numbers_of => k_is)
    (case a_law => k_is)
    (case l_law => k_is)
    (case c_law => k_is)
    (case k_law => k_is)
    (case a_le => k_is)
    (case l_le => k_is)
    (case c_le => k_is)
    (case k_le => k_is)
    (case t_le => k_is)
