import PyProof.Rows.All
import Wide.All
import OpenK.AllK
import Wide.FinOn
import HandS.ForMost
import HandS.ForExc
import HandS.ExcInit
import HandS.ExcField
import HandS.IsInst
import HandS.Wide
import HandS.EndBits
import HandS.Defaults
import HandS.Flow
import HandS.Head2
import HandS.HeadHook4
import HandS.HotCalls
import HandS.ExcCtx
import HandS.Evl
import HandS.ExcInitHot
import HandS.ExcIs
import KE.KExcIs
import PySem.Challenge.RW_slopesback_k02_four_signs
set_option Elab.async false
set_option linter.all false
set_option maxRecDepth 100000
set_option maxHeartbeats 4000000
/-! words of our own over the hand layer: a callee by its name, readings in steps -/
namespace Fw
open PySem PySem.Spec PyProof.Rows L2

/-! ### the end of a law: K from the head, the script's bits -/
theorem walk_ofEB {l : PySem.W.OpenLaw} {n k : Nat} {q : Program} {loose : List Str} {XP : (Str → Option Value) → Heap → Prop} {YP : World → Heap → Prop} {d : DefRec} {CX : World → CXT} {x : Str}
    (hn : l.most = some n) (hn2 : n ≤ sizeLine) (hdf : d.params.defaults = []) (hr : Room k callerA)
    (F : ∀ (w : World) (mg : Str → Option Value) (fa : Addr) (h : Heap), YP w h → h.Ns mainGlobals mg → mg d.name = some (.ref fa) →
      ∃ (K : PySem.W.Frag) (fd : FuncData) (sp : Sp), K.In h ∧ (∀ (s : Shared) (u : Value), BindsTo s fd ⟨[u], []⟩ [(x, u)]) ∧
        (∀ (H : Hp) (a : Addr) (ns : List Int), ns.length ≤ n → (∀ z ∈ ns, Builtin.Int.intBits z ≤ 1048576) → Only H → SqL K H a (ns.map V.int) → sp [.ref a] H (fun v _ => v = .bl true) fun _ _ _ => False) ∧
        ∀ base : Heap, K.In base → base.Ns mainGlobals mg → FnOk l.prog w K mg base (CX w) k fa fd [x] sp)
    (hCX : ∀ (w : World) (H : Hp) (s : Shared) (e : Value) (s' : Shared), CX w [] H s (fun _ _ _ => False) e s' → False) :
    PySem.W.WalkO q loose XP YP l.row.toRowW d [] (fun f vs => PySem.call f vs) := by
  refine Att.attach_callB hn hdf fun w s₀ s₁ mg mb fa o pm cd doc a vs ns G Y ho hd hcd hmg hobj hints hlen hbits hg => ?_
  obtain ⟨K, fd, sp, KX, hb, hsp, hF⟩ := F w mg fa _ Y G.T.g hmg
  exact law_call KX G.T.g G.T.b G.T.builtins G.T.nolimit hg hobj hints (Nat.le_trans hlen hn2) hr hF hb (fun H hO hS => hsp H a ns hlen hbits hO hS) fun H e s' => hCX w H s₁ e s'

/-! ### a def of the top, by its name -/
structure Cal (P : Program) (w : World) (K : PySem.W.Frag) (mg : Str → Option Value) (base : Heap) (k : Nat) (x : Str) (ps : List Str) (sp : Sp) : Prop where
  ex : ∃ f fd, FnOk P w K mg base (L2N.CX P w) k f fd ps sp ∧ Binds K fd ps [] ∧ mg x = some (.ref f) ∧ PySem.W.keepIn K (.ref f) = true
/-- what stands of a def behind the top -/
def Def (K : PySem.W.Frag) (mg : Str → Option Value) (x : Str) (st : Stmt) : Prop :=
  (∃ fd, FunD K x x (defArgs st) (defBody st) (defScope st) [] [] (He.ga K x) fd) ∧ mg x = some (.ref (He.ga K x))
def BindsOk (x q : Str) (ps : List Str) (st : Stmt) : Prop := ∀ (kV doc pm : Value) (an : Option Addr) (cdv ct : Value) (us : List Value), us.length = ps.length → bindArgs (PySem.W.fnOf x q (defArgs st) (defBody st) (defScope st) .none kV doc pm an cdv ct) ⟨us, []⟩ = pure (ps.zip us)
section
variable {P : Program} {w : World} {K : PySem.W.Frag} {mg : Str → Option Value} {base : Heap}
theorem cal_of {x : Str} {st : Stmt} {N ps : List Str} {k : Nat} {sp : Sp} (F : Def K mg x st) (S : FnScope N ps (defScope st)) (b : BindsOk x x ps st) (len : ∀ vs H Q E, sp vs H Q E → vs.length = ps.length)
    (hbody : ∀ (cdv : Value) (A : Around) (outer : List Env) (s : Shared) (H : Hp) (vs : List V) (Q : VK) (E : XK), Room k (A.deeper (envOfC x (defScope st) s.heap.objs.size (He.ga K x) cdv)) → sp vs H Q E →
      ∃ t, PSs (cxOf (L2N.CX P w) P w K mg base N x (defScope st) (He.ga K x) cdv A outer s H E) (defBody st) t ∧ t { nx := fun _ H' => Q .non H', rt := Q } (start N vs) H) : Cal P w K mg base (k + 1) x ps sp := by
  obtain ⟨⟨fd, F⟩, g⟩ := F
  exact ⟨_, fd, F.ok S len hbody, F.bindsN b, g, F.kp⟩
theorem Cal.mono {x : Str} {ps : List Str} {j k : Nat} {sp : Sp} (c : Cal P w K mg base j x ps sp) (h : j ≤ k) : Cal P w K mg base k x ps sp := by
  obtain ⟨f, fd, F, r⟩ := c.ex
  exact ⟨f, fd, F.mono h, r⟩
theorem Cal.imp {x : Str} {ps : List Str} {k : Nat} {sp sp' : Sp} (c : Cal P w K mg base k x ps sp) (h : ∀ vs H Q E, sp' vs H Q E → sp vs H Q E) : Cal P w K mg base k x ps sp' := by
  obtain ⟨f, fd, F, r⟩ := c.ex
  exact ⟨f, fd, F.imp h, r⟩
end
def tCal (sp : Sp) (E : XK) (t : TA) : TE := fun σ H Q => t σ H fun vs H1 => sp vs H1 Q E
section
variable {X : Cx} {k j : Nat} {x : Str} {ps : List Str} {sp : Sp} {E : XK} {p pos : Pos} {e : Expr} {es : List Expr} {t : TA}
theorem pe_cal (c : Cal X.prog X.w X.K X.mg X.base j x ps sp) (hr : Room k X.A) (hj : j ≤ k) (hx : Passes (L2N.CX X.prog X.w) X E) (ha : PA X (e :: es) t) (hg : Gl X x := by rfl)
    (hdb : (x == ("__debug__" : Str)) = false := by decide) (he : starEach (e :: es) X.env = (false, eval e X.env) :: starEach es X.env := by rfl) (hpl : (backTo pos (starEach es X.env)).any (·.1) = false := by rfl) :
    PE X (.Call (.Name x p) (e :: es) [] pos) (tCal sp E t) := by
  obtain ⟨f, fd, F, b, g, kp⟩ := c.ex
  have h := pe_call (p := p) (pos := pos) (F.mono hj) hr hg g kp b .nil hx ha hdb he hpl
  have e1 : tCall sp [] E t = tCal sp E t := by
    funext σ H Q
    show t σ H (fun vs H1 => sp (vs ++ []) H1 Q E) = t σ H fun vs H1 => sp vs H1 Q E
    congr 1
    funext vs H1
    rw [List.append_nil]
  rw [← e1]
  exact h
end

/-! ### operators -/
section
variable {X : Cx}
def rMul : R2 := rI CMulW fun i j => .int (i * j)
/-- // by a divisor that is not nought -/
def CFdiv (_ j : Int) : Prop := j ≠ 0 ∧ j.natAbs.log2 < 9000
def rFdiv : R2 := rI CFdiv fun i j => .int (i.fdiv j)
def rMod : R2 := rI (fun _ j => j ≠ 0) fun i j => .int (i.fmod j)
def rPow : R2 := rI CPow fun i j => .int (i ^ j.toNat)
def rPlus : R2 := rI0 fun i j => .int (i + j)
def rMinus : R2 := rI0 fun i j => .int (i - j)
def rLt : R2 := rI0 fun i j => .bl (decide (i < j))
def rLe : R2 := rI0 fun i j => .bl (decide (i ≤ j))
def rGt : R2 := rI0 fun i j => .bl (decide (j < i))
def rGe : R2 := rI0 fun i j => .bl (decide (j ≤ i))
theorem o_mul : OpR X (binaryOp .Mult) rMul := op_mulW
theorem o_fdiv : OpR X (binaryOp .FloorDiv) rFdiv := opI fun i j _ _ _ _ _ hc q => floordiv_int hc.1 q (.inl (PyProof.noPylong_of_log2 hc.2))
theorem o_mod : OpR X (binaryOp .Mod) rMod := op_modN
theorem o_pow : OpR X (binaryOp .Pow) rPow := op_pow
theorem o_add : OpR X (binaryOp .Add) rPlus := op_add
theorem o_sub : OpR X (binaryOp .Sub) rMinus := op_sub
theorem o_lt : OpR X (compareOp .Lt) rLt := op_lt
theorem o_le : OpR X (compareOp .LtE) rLe := op_le
theorem o_gt : OpR X (compareOp .Gt) rGt := op_gt
theorem o_ge : OpR X (compareOp .GtE) rGe := op_ge
def rAbs : List V → Hp → VK → Prop := fun xs H Q => ∃ i, xs = [.int i] ∧ Q (.int (if i < 0 then -i else i)) H
theorem c_abs : CallR X (.builtin "abs") rAbs := call_abs
def rStrI : List V → Hp → VK → Prop := fun xs H Q => ∃ i, xs = [.int i] ∧ i.natAbs.log2 < 1920 ∧ Q (.str (toString i)) H
theorem c_strI : CallR X (.type "str") rStrI := call_str_int
def rIntB : List V → Hp → VK → Prop := fun xs H Q => (∃ i, xs = [.int i] ∧ Q (.int i) H) ∨ ∃ k, xs = [.bl k] ∧ Q (.int (if k then 1 else 0)) H
theorem c_intB : CallR X (.type "int") rIntB := call_int1
def rLenS (K : PySem.W.Frag) : List V → Hp → VK → Prop := fun xs H Q => ∃ p ys, xs = [.ref p] ∧ (SqL K H p ys ∨ SqT K H p ys) ∧ Q (.int ys.length) H
theorem c_len : CallR X (.builtin "len") (rLenS X.K) := call_len_seq
theorem ixL {K : PySem.W.Frag} (h : X.K = K) : IxR X (rIxL K) := h ▸ ix_list
theorem ixT {K : PySem.W.Frag} (h : X.K = K) : IxR X (rIxT K) := h ▸ ix_tup
theorem c_lenK {K : PySem.W.Frag} (h : X.K = K) : CallR X (.builtin "len") (rLenS K) := h ▸ c_len
theorem c_isiK {K : PySem.W.Frag} (h : X.K = K) : CallR X (.builtin "isinstance") (rIsi K) := h ▸ call_isi
def rCatL : R2 := fun x y H Q => ∃ l b xs zs, x = .ref l ∧ y = .ref b ∧ H l = some (.lst xs) ∧ H b = some (.lst zs) ∧ xs.length + zs.length ≤ sizeLine ∧ ∀ p, H p = none → Q (.ref p) (upd H p (.lst (xs ++ zs)))
theorem o_catL : OpR X (binaryOp .Add) rCatL := op_cat
def rNeg : V → Hp → VK → Prop := rU fun i => .int (-i)
theorem u_neg : UnR X (unaryOp .USub) rNeg := un_neg
def rCatS : R2 := fun x y H Q => ∃ i j, x = .str i ∧ y = .str j ∧ i.length + j.length ≤ sizeLine ∧ Q (.str (i ++ j)) H
theorem o_catS : OpR X (binaryOp .Add) rCatS := op_add_str
end

/-! ### heaps -/
/-- all but what stands at d is as it was -/
def Keep (d : Addr) (H H' : Hp) : Prop := ∀ b o, b ≠ d → H b = some o → H' b = some o
theorem Keep.refl {d : Addr} {H : Hp} : Keep d H H := fun _ _ _ h => h
theorem Keep.trans {d : Addr} {H H1 H2 : Hp} (a : Keep d H H1) (b : Keep d H1 H2) : Keep d H H2 := fun c o hc h => b c o hc (a c o hc h)
theorem Keep.same {d : Addr} {H H1 H2 : Hp} (a : Keep d H H1) (b : Same H1 H2) : Keep d H H2 := fun c o hc h => b c o (a c o hc h)
theorem _root_.L2.Same.keep {d : Addr} {H H1 H2 : Hp} (a : Same H H1) (b : Keep d H1 H2) : Keep d H H2 := fun c o hc h => b c o hc (a c o h)
theorem _root_.L2.Same.toKeep {d : Addr} {H H1 : Hp} (a : Same H H1) : Keep d H H1 := fun c o _ h => a c o h
/-- what was not there at H may change -/
theorem Keep.toSame {d : Addr} {H H1 H2 : Hp} (a : Same H H1) (b : Keep d H1 H2) (h : H d = none) : Same H H2 := fun c o hc => b c o (ne_of_none hc h) (a c o hc)
theorem at_same {H H' : Hp} {b : Addr} {o : HO} (k : Same H H') (h : H b = some o) : H' b = some o := k _ _ h
theorem at_keep {d : Addr} {H H' : Hp} {b : Addr} {o : HO} (k : Keep d H H') (h : H b = some o) (n : b ≠ d) : H' b = some o := k _ _ n h
theorem at_keepT {d : Addr} {H H' : Hp} {b : Addr} {xs ys : List V} (k : Keep d H H') (h : H b = some (.tup xs)) (hd : H d = some (.lst ys)) : H' b = some (.tup xs) := k _ _ (ne_of h hd (by intro z; cases z)) h
theorem sql_same {K : PySem.W.Frag} {a : Addr} {H H' : Hp} {xs : List V} (k : Same H H') (h : SqL K H a xs) : SqL K H' a xs := k.seq h
theorem sqt_same {K : PySem.W.Frag} {a : Addr} {H H' : Hp} {xs : List V} (k : Same H H') (h : SqT K H a xs) : SqT K H' a xs := by
  rcases h with (h | ⟨o, h⟩) | h
  · exact .inl (.inl (k _ _ h))
  · exact .inl (.inr ⟨o, k _ _ h⟩)
  · exact .inr h
theorem sql_keep {K : PySem.W.Frag} {d a : Addr} {H H' : Hp} {xs : List V} (k : Keep d H H') (h : SqL K H a xs) (ne : a ≠ d) : SqL K H' a xs := by
  rcases h with (h | ⟨o, h⟩) | h
  · exact .inl (.inl (k _ _ ne h))
  · exact .inl (.inr ⟨o, k _ _ ne h⟩)
  · exact .inr h
theorem atI_ints {ns : List Int} {z : Int} (h0 : 0 ≤ z) (h1 : z < (ns.length : Int)) : ∃ y ∈ ns, atI (ns.map V.int) z = some (.int y) := by
  have hj : z.toNat < ns.length := by omega
  refine ⟨ns[z.toNat], List.getElem_mem hj, ?_⟩
  refine at_of (j := z.toNat) (by omega) ?_
  rw [List.getElem?_map, List.getElem?_eq_getElem hj]
  rfl
theorem same_upd {H : Hp} {p : Addr} {o : HO} (h : H p = none) : Same H (upd H p o) := fun b x e => by
  rw [upd_ne (ne_of_none e h)]
  exact e
theorem keep_upd {H : Hp} {p : Addr} {o : HO} : Keep p H (upd H p o) := fun b x n e => by
  rw [upd_ne n]
  exact e

/-! ### readings in steps -/
/-- a for over what J yields -/
def ForR (J : It) (g : TG) (tb : TS) (D : Ends) (σ : L2.St) (H : Hp) : Prop := ∃ W : Nat → Nat → L2.St → Hp → Prop, (∃ m, W 0 m σ H) ∧ ∀ i m σ H, W i m σ H →
  (J.stop i H ∧ D.nx σ H) ∨ (J.go i H ∧ ∃ N : L2.St → Hp → Prop, (∀ σ' H', N σ' H' → ∃ m', m' < m ∧ W (i + 1) m' σ' H') ∧ ∀ x H', J.yld i H x H' → g x σ H' fun σ2 H2 => tb { D with nx := N, ct := N, bk := D.nx } σ2 H2)
def ItL (K : PySem.W.Frag) (R : It → Hp → Prop) (x : V) (H : Hp) : Prop := ∃ a, x = .ref a ∧ (∃ xs, SqL K H a xs) ∧ R (Itl K a) H
def ItT (K : PySem.W.Frag) (R : It → Hp → Prop) (x : V) (H : Hp) : Prop := ∃ a, x = .ref a ∧ (∃ xs, SqT K H a xs) ∧ R (Itt K a) H
def ItR1 (R : It → Hp → Prop) (vs : List V) (H : Hp) : Prop := ∃ j : Int, vs = [.int j] ∧ -(2 ^ 62) ≤ j ∧ j < 2 ^ 62 ∧ R (Itr 0 j.toNat) H
def ItR2 (R : It → Hp → Prop) (vs : List V) (H : Hp) : Prop := ∃ i j : Int, vs = [.int i, .int j] ∧ (-(2 ^ 62) ≤ i ∧ i < 2 ^ 62 ∧ -(2 ^ 62) ≤ j ∧ j < 2 ^ 62) ∧ R (Itr i (j - i).toNat) H
/-- a list comprehension over what J yields -/
def LcR (J : It) (g : TG) (tt : TT) (te : TE) (vs : List Nat) (σ : L2.St) (Q : VK) (H1 : Hp) : Prop := ∀ D, H1 D = none → ∃ W : Nat → Nat → Hp → Prop, (∃ m, W 0 m (upd H1 D (.lst []))) ∧ ∀ i m H, W i m H →
  (J.stop i H ∧ Q (.ref D) H) ∨ (J.go i H ∧ ∃ Nx : Hp → Prop, (∀ H', Nx H' → ∃ m', m' < m ∧ W (i + 1) m' H') ∧ ∀ x H', J.yld i H x H' → g x (wipe σ vs) H' fun σ2 H2 => wipe σ2 vs = wipe σ vs ∧ tt σ2 H2 fun b H3 =>
    if b = true then te σ2 H3 fun y H4 => ∃ acc, H4 D = some (.lst acc) ∧ acc.length < sizeLine ∧ Nx (upd H4 D (.lst (acc ++ [y]))) else Nx H3)
def rMinL (K : PySem.W.Frag) : List V → Hp → VK → Prop := rMin K
theorem c_minL {X : Cx} (hc : X.calm = true) : CallR X (.builtin "min") (rMinL X.K) := cr_min hc
def rMin2 : List V → Hp → VK → Prop := fun xs H Q => ∃ i j, xs = [.int i, .int j] ∧ Q (.int (if j < i then j else i)) H
def rMax2 : List V → Hp → VK → Prop := fun xs H Q => ∃ i j, xs = [.int i, .int j] ∧ Q (.int (if j > i then j else i)) H
theorem c_min2 {X : Cx} (hc : X.calm = true) : CallR X (.builtin "min") rMin2 := call_min2 hc
theorem c_max2 {X : Cx} (hc : X.calm = true) : CallR X (.builtin "max") rMax2 := call_max2 hc
theorem loc_of {sc : Scope} {x : Str} (h : (sc.names.lookup x == some .local || sc.names.lookup x == some .cell) = true) : Loc sc x := by
  rcases Bool.or_eq_true_iff.mp h with h | h
  · exact .inl (eq_of_beq h)
  · exact .inr (eq_of_beq h)
def NewT (Q : VK) (xs : List V) (H : Hp) : Prop := xs.length ≤ sizeLine ∧ ∀ p, H p = none → Q (.ref p) (upd H p (.tup xs))
def NewL (Q : VK) (xs : List V) (H : Hp) : Prop := xs.length ≤ sizeLine ∧ ∀ p, H p = none → Q (.ref p) (upd H p (.lst xs))
section
variable {K : PySem.W.Frag} {σ : L2.St} {H H' : Hp} {ta tb tc te : TE} {tt tu : TT} {tas : TA} {D : Ends} {t u : TS} {x y v : V} {Q : VK} {R : Bool → Hp → Prop} {S : List V → Hp → Prop} {Z : L2.St → Hp → Prop} {i j : Int} {g : TG} {gs : TGs}
theorem w_start {N : List Str} {vs : List V} (σ : L2.St) (e : start N vs = σ) (h : t D σ H) : t D (start N vs) H := e ▸ h
theorem w_seq (h : t { nx := u D, rt := D.rt, bk := D.bk, ct := D.ct } σ H) : tSeq t u D σ H := h
theorem w_next (h : D.nx σ H) : tNext D σ H := h
theorem w_set {n : Nat} (h : te σ H fun v H1 => D.nx (σ.set n (some v)) H1) : tAsg te (gName n) D σ H := h
theorem w_asg (h : te σ H fun v H1 => g v σ H1 D.nx) : tAsg te g D σ H := h
theorem w_gname {n : Nat} (h : Z (σ.set n (some v)) H) : gName n v σ H Z := h
theorem w_gtup {a : Addr} {xs : List V} {n : Nat} (h : SqT K H a xs) (hn : xs.length = n) (q : gs xs σ H Z) : gTup K n gs (.ref a) σ H Z := ⟨a, xs, rfl, h, hn, q⟩
theorem w_gcons {r : List V} (h : g v σ H fun σ' H' => gs r σ' H' Z) : gCons g gs (v :: r) σ H Z := ⟨v, r, rfl, h⟩
theorem w_gnil (h : Z σ H) : gNil [] σ H Z := ⟨rfl, h⟩
theorem w_gsub {st : TSet} (h : ta σ H fun o H1 => tb σ H1 fun i H2 => st o i v H2 fun H3 => Z σ H3) : gSub ta tb st v σ H Z := h
theorem w_setL0 {p : Addr} {xs : List V} {n : Nat} {F : Hp → Prop} (h : H p = some (.lst xs)) (hn : ixN xs.length i = some n) (q : F (upd H p (.lst (xs.set n v)))) : rSetL (.ref p) (.int i) v H F := ⟨p, xs, i, n, rfl, rfl, h, hn, q⟩
theorem w_setL {p : Addr} {xs : List V} {n : Nat} {F : Hp → Prop} (h : H p = some (.lst xs)) (hn : ixN xs.length i = some n) (q : ∀ H1, H1 p = some (.lst (xs.set n v)) → Keep p H H1 → F H1) : rSetL (.ref p) (.int i) v H F := ⟨p, xs, i, n, rfl, rfl, h, hn, q _ upd_same keep_upd⟩
theorem w_drop (h : te σ H fun _ H1 => D.nx σ H1) : tDrop te D σ H := h
theorem w_ret (h : te σ H D.rt) : tRet te D σ H := h
theorem w_var {n : Nat} (h : σ[n]? = some (some v)) (q : Q v H) : tVar n σ H Q := ⟨v, h, q⟩
theorem w_c (q : Q v H) : tC v σ H Q := q
theorem w_op {r : R2} (h : ta σ H fun x H1 => tb σ H1 fun y H2 => r x y H2 Q) : tOp r ta tb σ H Q := h
theorem w_un {r : V → Hp → VK → Prop} (h : ta σ H fun x H1 => r x H1 Q) : tUn r ta σ H Q := h
theorem w_cb {r : List V → Hp → VK → Prop} (h : tas σ H fun vs H1 => r vs H1 Q) : tCB r tas σ H Q := h
theorem w_cal {sp : Sp} {E : XK} (h : tas σ H fun vs H1 => sp vs H1 Q E) : tCal sp E tas σ H Q := h
theorem w_nil (q : S [] H) : tNil σ H S := q
theorem w_cons (h : ta σ H fun x H1 => tas σ H1 fun xs H2 => S (x :: xs) H2) : tCons ta tas σ H S := h
theorem w_plus (q : Q (.int (i + j)) H) : rPlus (.int i) (.int j) H Q := ⟨i, j, rfl, rfl, q⟩
theorem w_minus (q : Q (.int (i - j)) H) : rMinus (.int i) (.int j) H Q := ⟨i, j, rfl, rfl, q⟩
theorem w_mul (c : CMulW i j) (q : Q (.int (i * j)) H) : rMul (.int i) (.int j) H Q := ⟨i, j, rfl, rfl, c, q⟩
theorem w_fdiv (c : CFdiv i j) (q : Q (.int (i.fdiv j)) H) : rFdiv (.int i) (.int j) H Q := ⟨i, j, rfl, rfl, c, q⟩
theorem w_mod (c : j ≠ 0) (q : Q (.int (i.fmod j)) H) : rMod (.int i) (.int j) H Q := ⟨i, j, rfl, rfl, c, q⟩
theorem w_pow (c : CPow i j) (q : Q (.int (i ^ j.toNat)) H) : rPow (.int i) (.int j) H Q := ⟨i, j, rfl, rfl, c, q⟩
theorem w_lt (q : Q (.bl (decide (i < j))) H) : rLt (.int i) (.int j) H Q := ⟨i, j, rfl, rfl, q⟩
theorem w_le (q : Q (.bl (decide (i ≤ j))) H) : rLe (.int i) (.int j) H Q := ⟨i, j, rfl, rfl, q⟩
theorem w_gt (q : Q (.bl (decide (j < i))) H) : rGt (.int i) (.int j) H Q := ⟨i, j, rfl, rfl, q⟩
theorem w_ge (q : Q (.bl (decide (j ≤ i))) H) : rGe (.int i) (.int j) H Q := ⟨i, j, rfl, rfl, q⟩
theorem w_eqI (q : Q (.bl (decide (i = j))) H) : rEq (.int i) (.int j) H Q := ⟨rfl, by
  have e : decide (V.int i = V.int j) = decide (i = j) := by simp
  rw [e]; exact q⟩
theorem w_neI (q : Q (.bl (!decide (i = j))) H) : rNe (.int i) (.int j) H Q := ⟨rfl, by
  have e : decide (V.int i = V.int j) = decide (i = j) := by simp
  rw [e]; exact q⟩
theorem w_eqB {b c : Bool} (q : Q (.bl (decide (b = c))) H) : rEq (.bl b) (.bl c) H Q := ⟨rfl, by
  have e : decide (V.bl b = V.bl c) = decide (b = c) := by simp
  rw [e]; exact q⟩
theorem w_neB {b c : Bool} (q : Q (.bl (!decide (b = c))) H) : rNe (.bl b) (.bl c) H Q := ⟨rfl, by
  have e : decide (V.bl b = V.bl c) = decide (b = c) := by simp
  rw [e]; exact q⟩
theorem w_eqS {b c : Str} (q : Q (.bl (decide (b = c))) H) : rEq (.str b) (.str c) H Q := ⟨rfl, by
  have e : decide (V.str b = V.str c) = decide (b = c) := by simp
  rw [e]; exact q⟩
theorem w_neS {b c : Str} (q : Q (.bl (!decide (b = c))) H) : rNe (.str b) (.str c) H Q := ⟨rfl, by
  have e : decide (V.str b = V.str c) = decide (b = c) := by simp
  rw [e]; exact q⟩
theorem w_neg (q : Q (.int (-i)) H) : rNeg (.int i) H Q := ⟨i, rfl, q⟩
theorem w_abs (q : Q (.int (if i < 0 then -i else i)) H) : rAbs [.int i] H Q := ⟨i, rfl, q⟩
theorem w_strI (c : i.natAbs.log2 < 1920) (q : Q (.str (toString i)) H) : rStrI [.int i] H Q := ⟨i, rfl, c, q⟩
theorem w_intB {b : Bool} (q : Q (.int (if b then 1 else 0)) H) : rIntB [.bl b] H Q := .inr ⟨b, rfl, q⟩
theorem w_intI (q : Q (.int i) H) : rIntB [.int i] H Q := .inl ⟨i, rfl, q⟩
theorem w_catS {a b : Str} (c : a.length + b.length ≤ sizeLine) (q : Q (.str (a ++ b)) H) : rCatS (.str a) (.str b) H Q := ⟨a, b, rfl, rfl, c, q⟩
theorem cdiv_small {i j : Int} (h0 : j ≠ 0) (h : j.natAbs < 2 ^ 64) : CFdiv i j := ⟨h0, Nat.lt_trans (PySem.Flt.log2_lt_of (by decide) h) (by decide)⟩
theorem cpow_mk {i j : Int} (h0 : 0 ≤ j) (h1 : j ≤ 1000000) (h2 : i.natAbs < 2 ^ 64) : CPow i j := ⟨h0, h1, h2⟩
theorem cmul_small {i j : Int} (h : i.natAbs < 2 ^ 64) (h2 : j.natAbs < 2 ^ 64) : CMulW i j := wide_mul h h2 (by decide) (by decide) (by decide)
theorem w_lenL {p : Addr} {xs : List V} (h : SqL K H p xs) (q : Q (.int xs.length) H) : rLenS K [.ref p] H Q := ⟨p, xs, rfl, .inl h, q⟩
theorem w_lenT {p : Addr} {xs : List V} (h : SqT K H p xs) (q : Q (.int xs.length) H) : rLenS K [.ref p] H Q := ⟨p, xs, rfl, .inr h, q⟩
theorem w_ixL {p : Addr} {xs : List V} (h : SqL K H p xs) (e : atI xs i = some v) (q : Q v H) : rIxL K (.ref p) (.int i) H Q := ⟨p, xs, i, v, rfl, rfl, h, e, q⟩
theorem w_ixT {p : Addr} {xs : List V} (h : SqT K H p xs) (e : atI xs i = some v) (q : Q v H) : rIxT K (.ref p) (.int i) H Q := ⟨p, xs, i, v, rfl, rfl, h, e, q⟩
theorem w_tup0 (h : tas σ H fun xs H1 => xs.length ≤ sizeLine ∧ ∀ p, H1 p = none → Q (.ref p) (upd H1 p (.tup xs))) : tTup tas σ H Q := h
theorem w_lst0 (h : tas σ H fun xs H1 => xs.length ≤ sizeLine ∧ ∀ p, H1 p = none → Q (.ref p) (upd H1 p (.lst xs))) : tLst tas σ H Q := h
theorem w_tup (h : tas σ H fun xs H1 => NewT Q xs H1) : tTup tas σ H Q := h
theorem w_lst (h : tas σ H fun xs H1 => NewL Q xs H1) : tLst tas σ H Q := h
theorem newT {xs : List V} (q : ∀ p H2, H p = none → H2 p = some (.tup xs) → Same H H2 → Q (.ref p) H2) (hn : Nat.ble xs.length 1000 = true := by rfl) : NewT Q xs H := ⟨Nat.le_of_lt (small1000 (Nat.le_of_ble_eq_true hn)), fun p np => q p _ np upd_same (same_upd np)⟩
theorem newL {xs : List V} (q : ∀ p H2, H p = none → H2 p = some (.lst xs) → Same H H2 → Q (.ref p) H2) (hn : Nat.ble xs.length 1000 = true := by rfl) : NewL Q xs H := ⟨Nat.le_of_lt (small1000 (Nat.le_of_ble_eq_true hn)), fun p np => q p _ np upd_same (same_upd np)⟩
theorem w_for {wi : TI} (h : wi σ H fun J H1 => ForR J g t D σ H1) : tFor wi g t D σ H := h
theorem w_iL {R : It → Hp → Prop} (h : te σ H fun x H1 => ItL K R x H1) : iList K te σ H R := h
theorem w_iT {R : It → Hp → Prop} (h : te σ H fun x H1 => ItT K R x H1) : iTup K te σ H R := h
theorem w_iR1 {R : It → Hp → Prop} (h : tas σ H fun x H1 => ItR1 R x H1) : iRng1 tas σ H R := h
theorem w_iR2 {R : It → Hp → Prop} (h : tas σ H fun x H1 => ItR2 R x H1) : iRng2 tas σ H R := h
theorem forL {a : Addr} {xs : List V} (hx : SqL K H a xs) (Pv : Nat → L2.St → Hp → Prop) (h0 : Pv 0 σ H) (hl : ∀ i σ H, i ≤ xs.length → Pv i σ H → SqL K H a xs)
    (hs : ∀ i x σ H, xs[i]? = some x → Pv i σ H → g x σ H fun σ2 H2 => t { nx := Pv (i + 1), rt := D.rt, ct := Pv (i + 1), bk := D.nx } σ2 H2) (hd : ∀ σ H, Pv xs.length σ H → D.nx σ H) :
    ItL K (fun J H1 => ForR J g t D σ H1) (.ref a) H := ⟨a, rfl, ⟨xs, hx⟩, for_list (xs := xs) Pv h0 hl hs hd⟩
theorem forR1 {n : Int} (hn : n < 2 ^ 62) (h0' : 0 ≤ n) (Pv : Nat → L2.St → Hp → Prop) (h0 : Pv 0 σ H)
    (hs : ∀ (i : Nat) σ H, (i : Int) < n → Pv i σ H → g (.int (i : Int)) σ H fun σ2 H2 => t { nx := Pv (i + 1), rt := D.rt, ct := Pv (i + 1), bk := D.nx } σ2 H2) (hd : ∀ σ H, Pv n.toNat σ H → D.nx σ H) :
    ItR1 (fun J H1 => ForR J g t D σ H1) [.int n] H := ⟨n, rfl, by omega, hn, for_range (lo := 0) (n := n.toNat) Pv h0 (fun i σ H hi p => by
      have e : (0 : Int) + (i : Int) = (i : Int) := Int.zero_add _
      rw [e]
      exact hs i σ H (by omega) p) hd⟩
theorem forR2 {lo n : Int} (hn : n < 2 ^ 62) (hl : -(2 ^ 62) ≤ lo ∧ lo < 2 ^ 62 ∧ -(2 ^ 62) ≤ n) (Pv : Nat → L2.St → Hp → Prop) (h0 : Pv 0 σ H)
    (hs : ∀ (i : Nat) σ H, lo + (i : Int) < n → Pv i σ H → g (.int (lo + (i : Int))) σ H fun σ2 H2 => t { nx := Pv (i + 1), rt := D.rt, ct := Pv (i + 1), bk := D.nx } σ2 H2) (hd : ∀ σ H, Pv (n - lo).toNat σ H → D.nx σ H) :
    ItR2 (fun J H1 => ForR J g t D σ H1) [.int lo, .int n] H := ⟨lo, n, rfl, ⟨hl.1, hl.2.1, hl.2.2, hn⟩, for_range (lo := lo) (n := (n - lo).toNat) Pv h0 (fun i σ H hi p => hs i σ H (by omega) p) hd⟩
theorem w_while (W : Nat → L2.St → Hp → Prop) (m0 : Nat) (h0 : W m0 σ H) (h : ∀ m σ H, W m σ H → tt σ H fun b H1 => if b = true then ∃ N : L2.St → Hp → Prop, (∀ σ' H', N σ' H' → ∃ m', m' < m ∧ W m' σ' H') ∧ t { D with nx := N, ct := N, bk := D.nx } σ H1 else D.nx σ H1) : tWhile tt t D σ H := ⟨W, ⟨m0, h0⟩, h⟩
theorem w_turn {W : Nat → L2.St → Hp → Prop} {m : Nat} {C : (L2.St → Hp → Prop) → Prop} (h : C fun σ' H' => ∃ m', m' < m ∧ W m' σ' H') : ∃ N : L2.St → Hp → Prop, (∀ σ' H', N σ' H' → ∃ m', m' < m ∧ W m' σ' H') ∧ C N := ⟨_, fun _ _ x => x, h⟩
theorem w_par {a b : Nat} (h : tas σ H fun vs H1 => ∃ v w, vs = [v, w] ∧ D.nx ((σ.set a (some v)).set b (some w)) H1) : tPar a b tas D σ H := h
theorem w_par2 {C : V → V → Prop} (h : C x y) : ∃ v w, [x, y] = [v, w] ∧ C v w := ⟨x, y, rfl, h⟩
theorem isi_ii (q : Q (.bl true) H) : rIsi K [.int i, .ty "int"] H Q := ⟨_, _, _, _, true, rfl, .ty _, .base (.int _), kit_ty (by decide +kernel), q⟩
theorem isi_ib (q : Q (.bl false) H) : rIsi K [.int i, .ty "bool"] H Q := ⟨_, _, _, _, false, rfl, .ty _, .base (.int _), kit_ty (by decide +kernel), q⟩
theorem isi_bb {b : Bool} (q : Q (.bl true) H) : rIsi K [.bl b, .ty "bool"] H Q := ⟨_, _, _, _, true, rfl, .ty _, .base (.bl _), kit_ty (by decide +kernel), q⟩
theorem isi_ss {b : Str} (q : Q (.bl true) H) : rIsi K [.str b, .ty "str"] H Q := ⟨_, _, _, _, true, rfl, .ty _, .base (.str _), kit_ty (by decide +kernel), q⟩
theorem isi_tt {p : Addr} {xs : List V} (h : H p = some (.tup xs)) (q : Q (.bl true) H) : rIsi K [.ref p, .ty "tuple"] H Q := ⟨_, _, _, _, true, rfl, .ty _, .base (.tup h), kit_ty (by decide +kernel), q⟩
theorem isi_ll {p : Addr} {xs : List V} (h : H p = some (.lst xs)) (q : Q (.bl true) H) : rIsi K [.ref p, .ty "list"] H Q := ⟨_, _, _, _, true, rfl, .ty _, .base (.lst h), kit_ty (by decide +kernel), q⟩
theorem w_cut (M : L2.St → Hp → Prop) (h : t { D with nx := M } σ H) (k : ∀ σ' H', M σ' H' → u D σ' H') : Evl.tCut t u D σ H := ⟨M, h, k⟩
theorem w_min2 (q : Q (.int (if j < i then j else i)) H) : rMin2 [.int i, .int j] H Q := ⟨i, j, rfl, q⟩
theorem w_max2 (q : Q (.int (if j > i then j else i)) H) : rMax2 [.int i, .int j] H Q := ⟨i, j, rfl, q⟩
theorem w_minL {p : Addr} {ns : List Int} (h : SqL K H p (ns.map V.int)) (h0 : 0 < ns.length) (q : ∀ m, m ∈ ns → (∀ y, y ∈ ns → m ≤ y) → Q (.int m) H) : rMinL K [.ref p] H Q := ⟨p, ns, rfl, h, h0, q⟩
/-- a built-in's method -/
theorem w_bm {T : String} {r : V → List V → Hp → VK → Prop} (h : ta σ H fun x H1 => tyV K T x H1 ∧ tas σ H1 fun xs H2 => r x xs H2 Q) : tBM K T r ta tas σ H Q := h
theorem w_tyL {p : Addr} {xs : List V} {C : Prop} (h : H p = some (.lst xs)) (q : C) : tyV K "list" (.ref p) H ∧ C := ⟨.inl ⟨rfl, xs, SqL.of h⟩, q⟩
theorem w_app {l : Addr} {xs : List V} (h : H l = some (.lst xs)) (hl : xs.length < 100000) (q : ∀ H1, H1 l = some (.lst (xs ++ [y])) → Keep l H H1 → Q .non H1) : rAppend (.ref l) [y] H Q := ⟨l, xs, y, rfl, rfl, h, Nat.lt_of_lt_of_le hl (by decide), q _ upd_same keep_upd⟩
theorem w_lc {wi : TI} {vs : List Nat} (h : wi σ H fun J H1 => LcR J g tt te vs σ Q H1) : tLc wi g tt te vs σ H Q := h
theorem lcR2 {lo n : Int} {m : Nat} {vs : List Nat} (f : Nat → V) (hn : n < 100000) (hl : -100000 ≤ lo ∧ lo < 100000 ∧ -100000 ≤ n)
    (hv : ∀ (i : Nat) H2 (Q' : VK), lo + (i : Int) < n → Same H H2 → Q' (f i) H2 → te ((wipe σ vs).set m (some (.int (lo + (i : Int))))) H2 Q') (hw : ∀ x, wipe ((wipe σ vs).set m (some x)) vs = wipe σ vs)
    (q : ∀ D H2, H D = none → H2 D = some (.lst ((List.range (n - lo).toNat).map f)) → Same H H2 → Q (.ref D) H2) : ItR2 (fun J H1 => LcR J (gName m) tYes te vs σ Q H1) [.int lo, .int n] H := by
  refine ⟨lo, n, rfl, by omega, fun D nD => ?_⟩
  refine lc_range (lo := lo) (n := (n - lo).toNat) (fun i H' => Same H H' ∧ H' D = some (.lst ((List.range i).map f))) ⟨same_upd nD, upd_same⟩ (fun i H' hi ⟨s1, e1⟩ => ?_) (fun H' ⟨s1, e1⟩ => q D H' nD e1 s1)
  refine ⟨hw _, hv i H' _ (by omega) s1 ?_⟩
  refine ⟨_, e1, by rw [List.length_map, List.length_range]; exact Nat.lt_of_lt_of_le (show i < 300000 by omega) (by decide), fun b o hb => ?_, ?_⟩
  · rw [upd_ne (ne_of_none hb nD)]
    exact s1 b o hb
  · rw [upd_same, List.range_succ, List.map_append]
    rfl
theorem lcR1 {n : Int} {m : Nat} {vs : List Nat} (f : Nat → V) (hn : n < 100000) (hl : -100000 ≤ n)
    (hv : ∀ (i : Nat) H2 (Q' : VK), (i : Int) < n → Same H H2 → Q' (f i) H2 → te ((wipe σ vs).set m (some (.int (i : Int)))) H2 Q') (hw : ∀ x, wipe ((wipe σ vs).set m (some x)) vs = wipe σ vs)
    (q : ∀ D H2, H D = none → H2 D = some (.lst ((List.range n.toNat).map f)) → Same H H2 → Q (.ref D) H2) : ItR1 (fun J H1 => LcR J (gName m) tYes te vs σ Q H1) [.int n] H := by
  refine ⟨n, rfl, by omega, by omega, fun D nD => ?_⟩
  refine lc_range (lo := 0) (n := n.toNat) (fun i H' => Same H H' ∧ H' D = some (.lst ((List.range i).map f))) ⟨same_upd nD, upd_same⟩ (fun i H' hi ⟨s1, e1⟩ => ?_) (fun H' ⟨s1, e1⟩ => q D H' nD e1 s1)
  have e0 : (0 : Int) + (i : Int) = (i : Int) := Int.zero_add _
  rw [e0]
  refine ⟨hw _, hv i H' _ (by omega) s1 ?_⟩
  refine ⟨_, e1, by rw [List.length_map, List.length_range]; exact Nat.lt_of_lt_of_le (show i < 300000 by omega) (by decide), fun b o hb => ?_, ?_⟩
  · rw [upd_ne (ne_of_none hb nD)]
    exact s1 b o hb
  · rw [upd_same, List.range_succ, List.map_append]
    rfl
theorem w_catL {l b : Addr} {xs zs : List V} (h1 : H l = some (.lst xs)) (h2 : H b = some (.lst zs)) (hn : xs.length + zs.length ≤ 100000) (q : ∀ p H2, H p = none → H2 p = some (.lst (xs ++ zs)) → Same H H2 → Q (.ref p) H2) : rCatL (.ref l) (.ref b) H Q := ⟨l, b, xs, zs, rfl, rfl, h1, h2, Nat.le_trans hn (by decide), fun p np => q p _ np upd_same (same_upd np)⟩
theorem lcL {a : Addr} {xs : List V} {m : Nat} {vs : List Nat} (f : V → V) (hx : SqL K H a xs) (hn : xs.length ≤ 100000) (hv : ∀ (x : V) H2 (Q' : VK), x ∈ xs → Same H H2 → Q' (f x) H2 → te ((wipe σ vs).set m (some x)) H2 Q') (hw : ∀ x, wipe ((wipe σ vs).set m (some x)) vs = wipe σ vs)
    (q : ∀ D H2, H D = none → H2 D = some (.lst (xs.map f)) → Same H H2 → Q (.ref D) H2) : ItL K (fun J H1 => LcR J (gName m) tYes te vs σ Q H1) (.ref a) H := by
  refine ⟨a, rfl, ⟨xs, hx⟩, fun D nD => ?_⟩
  refine lc_list (xs := xs) (fun i H' => Same H H' ∧ H' D = some (.lst ((xs.take i).map f))) ⟨same_upd nD, upd_same⟩ (fun i H' _ ⟨s1, _⟩ => s1.seq hx) (fun i x H' hi ⟨s1, e1⟩ => ?_) (fun H' ⟨s1, e1⟩ => q D H' nD (by rw [e1, List.take_length]) s1)
  refine ⟨hw _, hv x H' _ (List.mem_of_getElem? hi) s1 ?_⟩
  have hlt := (List.getElem?_eq_some_iff.mp hi).1
  refine ⟨_, e1, by rw [List.length_map, List.length_take]; exact Nat.lt_of_lt_of_le (show min i xs.length < 300000 by omega) (by decide), fun b o hb => ?_, ?_⟩
  · rw [upd_ne (ne_of_none hb nD)]
    exact s1 b o hb
  · rw [upd_same, List.take_add_one, hi, List.map_append]
    rfl
theorem w_test (h : te σ H fun x H' => ∃ k, x = .bl k ∧ R k H') : tTest te σ H R := h
theorem w_tB (h : te σ H fun x H' => ∃ k, x = .bl k ∧ R k H') : tB te σ H R := h
theorem w_bl {b : Bool} {C : Bool → Prop} (h : C b) : ∃ k, V.bl b = .bl k ∧ C k := ⟨b, rfl, h⟩
theorem w_and (h : tt σ H fun c H1 => if c = true then tu σ H1 R else R false H1) : tAnd tt tu σ H R := h
theorem w_or (h : tt σ H fun c H1 => if c = true then R true H1 else tu σ H1 R) : tOr tt tu σ H R := h
theorem w_not (h : tt σ H fun c H1 => R (!c) H1) : tNot tt σ H R := h
theorem w_andV (h : ta σ H fun x H1 => ∃ c, x = .bl c ∧ if c = true then tb σ H1 Q else Q (.bl false) H1) : tAndV ta tb σ H Q := h
theorem w_orV (h : ta σ H fun x H1 => ∃ c, x = .bl c ∧ if c = true then Q (.bl true) H1 else tb σ H1 Q) : tOrV ta tb σ H Q := h
theorem w_notV (h : ta σ H fun x H1 => ∃ c, x = .bl c ∧ Q (.bl (!c)) H1) : tNotV ta σ H Q := h
theorem w_ifE (h : tt σ H fun c H1 => if c = true then ta σ H1 Q else tb σ H1 Q) : tIf tt ta tb σ H Q := h
theorem w_ifS (h : tt σ H fun b H1 => if b = true then t D σ H1 else u D σ H1) : tIfS tt t u D σ H := h
theorem w_dec {c : Prop} [Decidable c] {A B : Prop} (h1 : c → A) (h2 : ¬ c → B) : if decide c = true then A else B := by
  by_cases h : c
  · rw [if_pos (decide_eq_true h)]; exact h1 h
  · rw [if_neg (by simpa using h)]; exact h2 h
theorem w_decN {c : Prop} [Decidable c] {A B : Prop} (h1 : ¬ c → A) (h2 : c → B) : if (!decide c) = true then A else B := by
  by_cases h : c
  · rw [if_neg (by simpa using h)]; exact h2 h
  · rw [if_pos (by simpa using h)]; exact h1 h
theorem w_decY {c : Prop} [Decidable c] {A B : Prop} (hc : c) (h : A) : if decide c = true then A else B := by rw [if_pos (decide_eq_true hc)]; exact h
theorem w_decO {c : Prop} [Decidable c] {A B : Prop} (hc : ¬ c) (h : B) : if decide c = true then A else B := by rw [if_neg (by simpa using hc)]; exact h
theorem w_decNY {c : Prop} [Decidable c] {A B : Prop} (hc : ¬ c) (h : A) : if (!decide c) = true then A else B := by rw [if_pos (by simpa using hc)]; exact h
theorem w_decNO {c : Prop} [Decidable c] {A B : Prop} (hc : c) (h : B) : if (!decide c) = true then A else B := by rw [if_neg (by simpa using hc)]; exact h
theorem w_new {xs : List V} {C : Prop} (q : C) (hn : Nat.ble xs.length 1000 = true := by rfl) : xs.length ≤ sizeLine ∧ C := ⟨Nat.le_of_lt (small1000 (Nat.le_of_ble_eq_true hn)), q⟩
theorem w_nyes {A B : Prop} (h : B) : if (!true) = true then A else B := by rw [if_neg (by decide)]; exact h
theorem w_nno {A B : Prop} (h : A) : if (!false) = true then A else B := by rw [if_pos (by decide)]; exact h
theorem w_yes {A B : Prop} (h : A) : if true = true then A else B := by rw [if_pos rfl]; exact h
theorem w_no {A B : Prop} (h : B) : if false = true then A else B := by rw [if_neg Bool.false_ne_true]; exact h
end
end Fw

/-! fractions in lowest terms, as made and _law_cut reckon them: plain Lean -/
namespace Mth
/-- the greatest common divisor, with the bottom's sign -/
def sg (t b : Int) : Int := if b < 0 then -(Nat.gcd t.natAbs b.natAbs : Int) else (Nat.gcd t.natAbs b.natAbs : Int)
def cT (t b : Int) : Int := t.fdiv (sg t b)
def cB (t b : Int) : Int := b.fdiv (sg t b)
theorem g_pos {t b : Int} (h : b ≠ 0) : 0 < Nat.gcd t.natAbs b.natAbs := Nat.gcd_pos_of_pos_right _ (by omega)
theorem sg_ne {t b : Int} (h : b ≠ 0) : sg t b ≠ 0 := by
  have := g_pos (t := t) h
  unfold sg
  split <;> omega
theorem sg_abs {t b : Int} : (sg t b).natAbs = Nat.gcd t.natAbs b.natAbs := by
  unfold sg
  split <;> omega
theorem sg_dvdT {t b : Int} : sg t b ∣ t := by
  rw [← Int.natAbs_dvd_natAbs, sg_abs]
  exact Nat.gcd_dvd_left _ _
theorem sg_dvdB {t b : Int} : sg t b ∣ b := by
  rw [← Int.natAbs_dvd_natAbs, sg_abs]
  exact Nat.gcd_dvd_right _ _
theorem cT_mul {t b : Int} : sg t b * cT t b = t := Int.mul_fdiv_cancel' sg_dvdT
theorem cB_mul {t b : Int} : sg t b * cB t b = b := Int.mul_fdiv_cancel' sg_dvdB
theorem sg_le {t b : Int} (h : b ≠ 0) : (sg t b).natAbs ≤ b.natAbs := by
  rw [sg_abs]
  exact Nat.gcd_le_right _ (by omega)
theorem cB_pos {t b : Int} (h : b ≠ 0) : 0 < cB t b := by
  have e := cB_mul (t := t) (b := b)
  have g := g_pos (t := t) h
  rcases Int.lt_trichotomy (cB t b) 0 with z | z | z
  · exfalso
    unfold sg at e
    split at e
    · have : 0 < (-(Nat.gcd t.natAbs b.natAbs : Int)) * cB t b := Int.mul_pos_of_neg_of_neg (by omega) z
      omega
    · have : (Nat.gcd t.natAbs b.natAbs : Int) * cB t b < 0 := Int.mul_neg_of_pos_of_neg (by omega) z
      omega
  · rw [z, Int.mul_zero] at e
    omega
  · exact z
theorem cT_le {t b : Int} (h : b ≠ 0) : (cT t b).natAbs ≤ t.natAbs := by
  have e := congrArg Int.natAbs (cT_mul (t := t) (b := b))
  rw [Int.natAbs_mul, sg_abs] at e
  rw [← e]
  exact Nat.le_mul_of_pos_left _ (g_pos h)
theorem cB_le {t b : Int} (h : b ≠ 0) : (cB t b).natAbs ≤ b.natAbs := by
  have e := congrArg Int.natAbs (cB_mul (t := t) (b := b))
  rw [Int.natAbs_mul, sg_abs] at e
  rw [← e]
  exact Nat.le_mul_of_pos_left _ (g_pos h)
theorem c_cross {t b : Int} : cT t b * b = cB t b * t := by
  have e1 := cT_mul (t := t) (b := b)
  have e2 := cB_mul (t := t) (b := b)
  calc cT t b * b = cT t b * (sg t b * cB t b) := by rw [e2]
    _ = cB t b * (sg t b * cT t b) := by rw [Int.mul_left_comm, Int.mul_comm (cT t b), Int.mul_left_comm]
    _ = cB t b * t := by rw [e1]
theorem c_gcd {t b : Int} (h : b ≠ 0) : Nat.gcd (cT t b).natAbs (cB t b).natAbs = 1 := by
  have e1 := congrArg Int.natAbs (cT_mul (t := t) (b := b))
  have e2 := congrArg Int.natAbs (cB_mul (t := t) (b := b))
  rw [Int.natAbs_mul, sg_abs] at e1 e2
  have g := g_pos (t := t) h
  have k : Nat.gcd (Nat.gcd t.natAbs b.natAbs * (cT t b).natAbs) (Nat.gcd t.natAbs b.natAbs * (cB t b).natAbs) = Nat.gcd t.natAbs b.natAbs := by rw [e1, e2]
  rw [Nat.gcd_mul_left] at k
  exact Nat.eq_of_mul_eq_mul_left g (by omega)
theorem gcd_step {x y : Int} (hx : 0 ≤ x) (hy : 0 < y) : 0 ≤ x.fmod y ∧ x.fmod y < y ∧ Nat.gcd y.natAbs (x.fmod y).natAbs = Nat.gcd x.natAbs y.natAbs := by
  rw [Int.fmod_eq_emod_of_nonneg x (by omega)]
  refine ⟨Int.emod_nonneg _ (by omega), Int.emod_lt_of_pos _ hy, ?_⟩
  have e : (x % y).natAbs = x.natAbs % y.natAbs := by
    obtain ⟨n, rfl⟩ := Int.eq_ofNat_of_zero_le hx
    obtain ⟨k, rfl⟩ := Int.eq_ofNat_of_zero_le (Int.le_of_lt hy)
    rfl
  rw [e, Nat.gcd_comm x.natAbs, Nat.gcd_rec y.natAbs x.natAbs, Nat.gcd_comm]
end Mth

/-! while an exception is handled: a list comprehension over a list, isinstance of that exception; an own exception with __init__ whose context is None -/
namespace Htx
open PySem PySem.Spec PyProof.Rows L2 HotX
/-! ### a list's iterator at its end -/
section
variable {prog : Program} {w : World} {A : Around} {E : Value → Shared → Prop} {s : Shared}
theorem iter_ne {x1 it l : Addr} {i : Nat} {h : Heap} (hot : HotAt A x1 h) (hit : h.IsListIter it l i) : x1 ≠ it := by
  rintro rfl
  obtain ⟨_, o1, vs1, h1, d1, c1⟩ := hot
  obtain ⟨o, ho, _, hd⟩ := hit
  rw [h1] at ho
  cases ho
  rw [d1] at hd
  injection hd with hd
  subst hd
  cases c1
theorem list_end_hot {it l x1 : Addr} {i : Nat} {items : Array Value} {Q : Option Value → Shared → Prop} (hot : HotAt A x1 s.heap) (hit : s.heap.IsListIter it l i) (hl : s.heap.IsList l items) (hx : items[i]? = none)
    (hQ : ∀ h', Heap.ExtBut it s.heap h' → Q none { s with heap := h' }) : wpAny (model prog w) A (pyNext (.ref it)) Q E s := by
  have nxi : x1 ≠ it := iter_ne hot hit
  obtain ⟨hh, o1, vs1, h1, d1, c1⟩ := hot
  obtain ⟨o, ho, hc, hd⟩ := id hit
  obtain ⟨ol, hol, _, nl, hdl⟩ := hl
  unfold pyNext
  refine wpAny_bind (wpAny_attempt (wpAny_callSpecial?_slot (name := Str.ofString "__next__") hit.typeIs slot_listiter_next (wpAny_call_entry slot_listiter_next hit.typeIs entry_listiter_next ?_ (args_listiter_next _))))
  show wpAny _ _ (field (.ref it) 0 >>= _) _ _ s
  refine wpAny_bind (wpAny_field ho hd (x := .ref l) rfl ?_)
  show wpAny _ _ (if (Value.ref l == Value.none) = true then _ else _) _ _ s
  rw [if_neg (show ¬ ((Value.ref l == Value.none) = true) from Bool.false_ne_true)]
  show wpAny _ _ (field (.ref it) 1 >>= _) _ _ s
  refine wpAny_bind (wpAny_field ho hd (x := .int i 0) rfl ?_)
  show wpAny _ _ (seqItems? (.ref l) >>= _) _ _ s
  refine wpAny_bind (wpAny_seqItems hol hdl ?_)
  simp only [Int.toNat_natCast, hx]
  refine wpAny_bind (wpAny_rule (wpAny_bind (wpAny_setField ho hd (by simp) ?_)))
  show wpAny _ _ (newExc (.type "StopIteration") [] >>= _) _ _ _
  refine wpAny_bind ?_
  simp only [newExc, newTuple]
  refine wpAny_bind (wpAny_newObj_type ?_ (by size_fits))
  refine wpAny_bind (m := firstArgMember _ _) (wpAny_of_eq (a := Value.none) (by first | rfl | (simp only [firstArgMember]; rfl)) ?_)
  refine wpAny_newObj_type ?_ (by size_fits)
  have h1' := (Heap.get?_update_other s.heap (Obj.mapFields (·.setIfInBounds 0 Value.none)) (Ne.symm nxi)).trans h1
  refine raiseNew_hot (x1 := x1) ⟨hh, o1, vs1, Heap.get?_push_of_some _ (Heap.get?_push_of_some _ h1'), d1, c1⟩ (Nat.ne_of_lt (Heap.lt_size (Heap.get?_push_of_some _ h1'))) (Heap.get?_push_size _ rfl) rfl (by first | (simp; done) | (simp; omega) | (simp only [Array.size_append]; simp; omega)) ?_
  refine wpAny_bind (wpAny_isInstance (T := "StopIteration") (b := true) ⟨_, Heap.get?_update_self _ (Heap.get?_push_size _ rfl) rfl, rfl⟩ isSubtype_stop ?_)
  refine wpAny_pure (hQ _ fun b o hb e => ?_)
  rw [Heap.get?_update_other _ _ (Nat.ne_of_gt (Heap.lt_size (Heap.get?_push_of_some _ ((Heap.get?_update_other s.heap (Obj.mapFields (·.setIfInBounds 0 Value.none)) (Ne.symm hb)).trans e))))]
  exact Heap.get?_push_of_some _ (Heap.get?_push_of_some _ ((Heap.get?_update_other s.heap (Obj.mapFields (·.setIfInBounds 0 Value.none)) (Ne.symm hb)).trans e))
end
/-! ### a list comprehension over a list, in the hot -/
section
variable {X : Cx}
theorem list_item {pins : List (Addr × Obj)} {s : Shared} {σ : L2.St} {H : Hp} {E : Value → Shared → Prop} {tg : Expr} {a it : Addr} {i : Nat} (I : Inv X pins σ H s) (hf : FpOk X pins H it) (st : s.heap.IsListIter it a i) (hg : (Itl X.K a).go i H) :
    wpAny (model X.prog X.w) X.A (pyNext (.ref it)) (fun r s1 => ∃ u, r = some u ∧
      wpAny (model X.prog X.w) X.A (letOwnedTupleGo tg (.ref it) u) (fun _ s2 => ∃ x H', Inv X pins σ H' s2 ∧ RelV x u ∧ (Itl X.K a).yld i H x H' ∧ s2.heap.IsListIter it a (i + 1) ∧ H' it = none) E s1) E s := by
  obtain ⟨xs, x, hq, hx⟩ := hg
  obtain ⟨its, rv, p, hz⟩ := I.list hq
  obtain ⟨u, hu, ru⟩ := rv.get hx
  obtain ⟨f0, f1, f2, f3, f4, f5⟩ := hf
  refine wpAny_pyNext_list_item st p.isList (x := u) (by simpa using hu) fun h' st' sb => ?_
  have I1 : Inv X pins σ H { s with heap := h' } := I.turned (t' := s.toks) (fun b o hb e => (sb.2 b hb).trans e) f0 f1 f3 f4 f5
  obtain ⟨o, e, c, d⟩ := id st'
  exact ⟨u, rfl, go_of (s := { s with heap := h' }) e c d (by decide) ⟨x, H, I1, ru, ⟨rfl, fun ys hy => by rw [I.list_inj hy hq]; exact hx⟩, st', f0⟩⟩
theorem list_done {pins : List (Addr × Obj)} {s : Shared} {σ : L2.St} {H : Hp} {E : Value → Shared → Prop} {a it x1 : Addr} {i : Nat} (hot : HotAt X.A x1 s.heap) (I : Inv X pins σ H s) (hf : FpOk X pins H it) (st : s.heap.IsListIter it a i) (hg : (Itl X.K a).stop i H) :
    wpAny (model X.prog X.w) X.A (pyNext (.ref it)) (fun r s1 => r = none ∧ Inv X pins σ H s1) E s := by
  obtain ⟨xs, hq, hx⟩ := hg
  obtain ⟨its, rv, p, hz⟩ := I.list hq
  obtain ⟨f0, f1, f2, f3, f4, f5⟩ := hf
  have hl := rv.length
  exact list_end_hot hot st p.isList (by simp; omega) fun h' eb => ⟨rfl, I.turned (t' := s.toks) (fun b o hb e => eb b o hb e) f0 f1 f3 f4 f5⟩
theorem pe_lcH {elt tg l : Expr} {ifs : List Expr} {scope : Scope} {own : List (Str × Nat)} {pos : Pos} {tl : TE} {g : TG} {tt : TT} {te : TE} (hc : L2H.HotC X) (hN : X.N.Nodup) (hl : PE X l tl) (ok : BlkOk X.N X.env.scope scope own)
    (hg : ∀ (s : Shared) (H : Hp) (C : Addr) (cl : List (Str × Addr)) (fp : List Addr), PG (X.blk s H scope (compEnvC scope cl C X.env) fp) tg g) (ht : ∀ (s : Shared) (H : Hp) (C : Addr) (cl : List (Str × Addr)) (fp : List Addr), PTs (X.blk s H scope (compEnvC scope cl C X.env) fp) ifs tt)
    (he : ∀ (s : Shared) (H : Hp) (C : Addr) (cl : List (Str × Addr)) (fp : List Addr), PE (X.blk s H scope (compEnvC scope cl C X.env) fp) elt te) (hs : ∀ x, foldedSetIterable l X.env x = pure x := by intro _; rfl) :
    PE X (.ListComp elt [⟨tg, l, ifs, 0⟩] scope pos) (tLc (iList X.K tl) g tt te (own.map (·.2))) := by
  refine ⟨fun pins s σ H Q I h => ?_⟩
  rw [eval_ListComp]
  have hfree : ∀ y ∈ scope.names, y.2 = .free → ∃ c, X.env.cells.lookup y.1 = some c := fun y hy e => by
    rcases ok.free y hy e with k | k
    · exact I.ok.has _ (.inl k)
    · exact I.ok.has _ (.inr k)
  refine wpAny_comprehension_free rfl hs (closure_ok hfree) ok.kind (fun y hy e => by rw [ok.uniq y hy, e]) (thn (hl.run pins s σ H _ I h) fun v s1 hv => ?_)
  obtain ⟨x, H1, I1, r1, a, ex, ⟨xs, hq⟩, q⟩ := hv
  subst ex
  cases r1
  obtain ⟨its, rv, p, hz⟩ := I1.list hq
  refine wpAny_pyIter_list p.isList ?_
  -- the iterator
  generalize hit : s1.heap.objs.size = it
  generalize hs2 : ({ s1 with heap := s1.heap.push { cls := .type "list_iterator", data := .fields #[.ref a, .int 0 0] } } : Shared) = s2
  have I2 : Inv X pins σ H1 s2 := by
    rw [← hs2]
    exact I1.kept (t' := s1.toks) fun b o e => Heap.get?_push_of_some _ e
  have st2 : s2.heap.IsListIter it a 0 := by
    rw [← hs2, ← hit]
    exact ⟨_, Heap.get?_push_size _ rfl, rfl, rfl⟩
  have f2 : FpOk X pins H1 it := by
    rw [← hit]
    exact I1.fpOk (Nat.le_refl _) (I1.hok.fresh (Nat.le_refl _))
  refine wpAny_newObj_type (newEnv_comp ?_) (by show 0 ≤ sizeLine; decide)
  generalize hD : s2.heap.objs.size = D
  have hDn : H1 D = none := I2.hok.fresh (Nat.le_of_eq hD)
  obtain ⟨W, ⟨m0, w0⟩, turn⟩ := q D hDn
  -- the new list
  generalize hs3 : ({ s2 with heap := s2.heap.push { cls := .type "list", data := .seq ([] : List Value).toArray } } : Shared) = s3
  have I3 : Inv X pins σ (upd H1 D (.lst [])) s3 := by
    rw [← hs3]
    refine I2.laid (t' := s2.toks) (fun b o e => Heap.get?_push_of_some _ e) (Nat.le_of_eq hD) ⟨Nat.zero_le _, [], 0, .nil, ?_⟩
    rw [← hD]
    exact Heap.get?_push_size _ rfl
  have h3 : s3.heap = s2.heap.push { cls := .type "list", data := .seq ([] : List Value).toArray } := by rw [← hs3]
  have hlt : it < s2.heap.objs.size := by
    obtain ⟨o, e, _⟩ := st2
    exact Heap.lt_size e
  have f3 : ∀ b ∈ [it], FpOk X pins (upd H1 D (.lst [])) b ∧ b < s3.heap.objs.size := fun b hb => by
    have eb : b = it := by simpa using hb
    subst eb
    refine ⟨⟨?_, f2.2⟩, by rw [h3, Heap.size_push]; exact Nat.lt_succ_of_lt hlt⟩
    rw [upd_ne (by rw [← hD]; exact Nat.ne_of_lt hlt)]
    exact f2.1
  have kp3 : ∀ b o, s2.heap.get? b = some o → s3.heap.get? b = some o := fun b o e => by rw [h3]; exact Heap.get?_push_of_some _ e
  have st3 : s3.heap.IsListIter it a 0 := st2.at fun o e => kp3 it o e
  have I4 := block_start I3 ok hN f3
  have pg := hg s3 (upd H1 D (.lst [])) s3.heap.objs.size (cellsFrom (s3.heap.objs.size + 1) scope.names (cloFrom X.env.cells scope.names [])) [it]
  have pt := ht s3 (upd H1 D (.lst [])) s3.heap.objs.size (cellsFrom (s3.heap.objs.size + 1) scope.names (cloFrom X.env.cells scope.names [])) [it]
  have pe := he s3 (upd H1 D (.lst [])) s3.heap.objs.size (cellsFrom (s3.heap.objs.size + 1) scope.names (cloFrom X.env.cells scope.names [])) [it]
  show codeAny _ _ (.compStart (.ListComp elt [⟨tg, l, ifs, 0⟩] scope pos) 0 (.ref it) (.ref D) (compEnvC scope (cellsFrom (s3.heap.objs.size + 1) scope.names (cloFrom X.env.cells scope.names [])) s3.heap.objs.size X.env)) (compPost (model X.prog X.w) X.A X.xe none (EP X pins σ Q) (.ref D) s3.heap.objs.size) { s3 with heap := pushCells (s3.heap.push { cls := .type "dict", data := .dict #[] }) scope.names }
  have nfp : (upd H1 D (.lst [])) it = none := (f3 it (by simp)).1.1
  generalize hce : compEnvC scope (cellsFrom (s3.heap.objs.size + 1) scope.names (cloFrom X.env.cells scope.names [])) s3.heap.objs.size X.env = ce at I4 pg pt pe ⊢
  have cL : ce.locals = s3.heap.objs.size := by subst hce; rfl
  generalize hH3 : upd H1 D (.lst []) = H3 at I3 I4 pg pt pe w0 nfp f3
  generalize hs4 : ({ s3 with heap := pushCells (s3.heap.push { cls := .type "dict", data := .dict #[] }) scope.names } : Shared) = s4 at I4 ⊢
  have st4 : s4.heap.IsListIter it a 0 := st3.at fun o e => by rw [← hs4]; exact pushCells_keeps _ _ _ _ (Heap.get?_push_of_some _ e)
  have stat : ∀ {σ' : L2.St} {H' : Hp} {s' : Shared}, Inv (X.blk s3 H3 scope ce [it]) [] σ' H' s' → H' it = none → FpOk (X.blk s3 H3 scope ce [it]) [] H' it := fun {σ' H' s'} I' hn =>
    ⟨hn, (I'.ok.exf it (by simp)).1, I'.ok.exfs it (by simp), .inl (by simp), fun x c e => (I'.ok.exf it (by simp)).2 x c e, fun p hp => absurd (show p ∈ ([] : List (Addr × Obj)) ++ [] from hp) (by simp)⟩
  -- the handled exception stands in the block, too
  have hotB : ∀ {σ' : L2.St} {H' : Hp} {s' : Shared}, Inv (X.blk s3 H3 scope ce [it]) [] σ' H' s' → ∃ x1, HotAt (X.blk s3 H3 scope ce [it]).A x1 s'.heap := fun {σ' H' s'} I' => by
    obtain ⟨pp, ⟨hh, v1, e1, c1⟩, hp⟩ := hc
    obtain ⟨g1, g2, g3, g4, _⟩ := I3.pin pp (List.mem_append_left _ hp)
    have hot3 : HotAt X.A pp.1 s3.heap := ⟨hh, pp.2, v1, g1, e1, c1⟩
    have nit : pp.1 ∉ ([it] : List Addr) := fun z => iter_ne hot3 st3 (by simpa using z)
    have nst : pp.1 ∉ frs X.stack := fun hm => (List.mem_cons.mp (I3.stkSub pp.1 hm)).elim g3 g4
    exact ⟨pp.1, hh, pp.2, v1, I'.base.keep pp.1 pp.2 g1 g2 nst nit, e1, c1⟩
  have loop : codeAny (model X.prog X.w) X.A (.compLoop (.ListComp elt [⟨tg, l, ifs, 0⟩] scope pos) 0 (.ref it) (.ref D) ce) (compPost (model X.prog X.w) X.A X.xe none (EP X pins σ Q) (.ref D) s3.heap.objs.size) s4 := by
    refine compLoop_any (fun n s' => ∃ i H', Inv (X.blk s3 H3 scope ce [it]) [] (wipe σ (own.map (·.2))) H' s' ∧ s'.heap.IsListIter it a i ∧ H' it = none ∧ W i n H') ?_ m0 ⟨0, H3, I4, st4, nfp, w0⟩
    rintro n s5 ⟨i, H5, I5, st5, n5, w5⟩
    rcases turn i n H5 w5 with ⟨stop, qq⟩ | ⟨go, Nx, hNx, step⟩
    · obtain ⟨x1, hot5⟩ := hotB I5
      have td := list_done (X := X.blk s3 H3 scope ce [it]) (E := fun _ _ => False) hot5 I5 (stat I5 n5) st5 stop
      refine thnF td fun r s6 ⟨hr, I6⟩ => ?_
      subst hr
      have I7 : Inv X pins σ H5 s6 := I3.call' (ch := [it]) I6.os I6.base I6.hok I6.bare fun b hb => ⟨(f3 b hb).1.2.2.2.1, (f3 b hb).1.2.1, (f3 b hb).1.2.2.2.2.1, (f3 b hb).1.2.2.2.2.2⟩
      have nC : H5 s3.heap.objs.size = none := by
        have z : H5 ce.locals = none := I6.free
        rw [cL] at z
        exact z
      obtain ⟨m, hn, _⟩ := I6.loc
      have hn : s6.heap.Ns ce.locals m := hn
      rw [cL] at hn
      refine ⟨m, hn, fun h'' sb => ?_⟩
      obtain ⟨z0, z1, z2, z3, z4, z5⟩ := I3.fpOk (H' := H5) (Nat.le_refl _) nC
      exact ⟨.ref D, H5, I7.turned (t' := s6.toks) (fun b o hb e => (sb.2 b hb).trans e) z0 z1 z3 z4 z5, rfl, qq⟩
    · have ti := list_item (X := X.blk s3 H3 scope ce [it]) (E := fun _ _ => False) (tg := tg) I5 (stat I5 n5) st5 go
      refine thnF ti fun r s6 ⟨u, hr, h6⟩ => ?_
      subst hr
      refine thnF h6 fun _ s7 ⟨x, H7, I7, r7, y7, st7, n7⟩ => ?_
      have ob7 : ∀ b ∈ [it], ∃ o, s7.heap.get? b = some o ∧ ∀ v, o.data ≠ .cell v := fun b hb => by
        have eb : b = it := by simpa using hb
        subst eb
        obtain ⟨o, e, c, d⟩ := st7
        exact ⟨o, e, fun v z => by rw [d] at z; cases z⟩
      have I7' := I7.pinned (fp := [it]) (fun b hb => by
        have eb : b = it := by simpa using hb
        subst eb
        exact stat I7 n7) ob7
      refine thnF (pg.run _ s7 _ H7 x u _ I7' r7 (step x H7 y7)) fun _ s8 ⟨σ8, H8, I8, hw8, q8⟩ => ?_
      refine thnF (pt.run _ s8 σ8 H8 _ I8 q8) fun b s9 ⟨H9, I9, q9⟩ => ?_
      have fin : ∀ {s' : Shared} {H' : Hp}, Inv (X.blk s3 H3 scope ce [it]) ([] ++ pinsAt [it] s7.heap) σ8 H' s' → Nx H' → ∃ m, m < n ∧ ∃ i H', Inv (X.blk s3 H3 scope ce [it]) [] (wipe σ (own.map (·.2))) H' s' ∧ s'.heap.IsListIter it a i ∧ H' it = none ∧ W i m H' := fun {s' H'} I' nx => by
        obtain ⟨m', hm, w'⟩ := hNx H' nx
        have pin' : ∀ o, s7.heap.get? it = some o → s'.heap.get? it = some o ∧ H' it = none := fun o e =>
          let z := I'.pin (it, o) (List.mem_append_right _ (List.mem_append_right _ (mem_pinsAt (fp := [it]) (by simp) e)))
          ⟨z.1, z.2.1⟩
        have hl : (wipe σ (own.map (·.2))).length = σ8.length := by rw [← hw8, wipe_length]
        refine ⟨m', hm, i + 1, H', (I'.unpinned (pins := [])).weak hl (fun j v e => ?_), st7.at fun o e => (pin' o e).1, ?_, w'⟩
        · rw [← hw8] at e
          exact (wipe_some e).1
        · obtain ⟨o, e, _⟩ := st7
          exact (pin' o e).2
      cases b with
      | false =>
        simp only [Bool.false_eq_true, if_false] at q9 ⊢
        exact fin I9 q9
      | true =>
        simp only [if_true] at q9 ⊢
        refine thnF (pe.run _ s9 σ8 H9 _ I9 q9) fun z s10 ⟨yv, H10, I10, r10, acc, hD10, hz10, nx⟩ => ?_
        exact app_ok (X := X.blk s3 H3 scope ce [it]) I10 hD10 hz10 r10 fun s11 I11 => fin I11 nx
  exact codeAny_compStart_list loop (wpAny_pyIter_listiter st4 loop)
end
/-! ### own exceptions over ValueError: what the written part says -/
def oexB (K : PySem.W.Frag) (C : Addr) : Bool := match K.lookup C with
  | some ⟨.type "type", _, .cls cd, sl⟩ => (match cd.mro, sl.toList with
    | .ref C' :: bm, [_, _, _, _, some (.builtin n), _] => C' == C && n == "ValueError.__new__" && !cd.hasDel && cd.hasDict && PySem.HandSPX.refsVE bm
    | _, _ => false)
  | _ => false
theorem oexB_ok {K : PySem.W.Frag} {C : Addr} (q : oexB K C = true) : ∃ nm q N bs bm sn sub ab col dd k0 k1 k2 k3 k5, K.lookup C = some (excClassObj nm q C N bs bm true sn sub ab col dd k0 k1 k2 k3 k5 "ValueError.__new__") ∧ PySem.HandSPX.refsVE bm = true := by
  unfold oexB at q
  split at q
  · rename_i dd cd sl ho
    split at q
    · rename_i C' bm k0 k1 k2 k3 n k5 hm hs
      simp only [Bool.and_eq_true, beq_iff_eq, Bool.not_eq_true'] at q
      obtain ⟨⟨⟨⟨e1, e2⟩, hdel⟩, hdict⟩, ht⟩ := q
      subst e1 e2
      obtain ⟨nm, bs, mro, ns, qn, hd, sn, sub, ab, col, del⟩ := cd
      dsimp only at hm hdel hdict
      subst hm hdel hdict
      have hsl : sl = #[k0, k1, k2, k3, some (.builtin "ValueError.__new__"), k5] := by
        obtain ⟨l⟩ := sl
        simp only at hs
        rw [hs]
      subst hsl
      exact ⟨nm, qn, ns, bs, bm, sn, sub, ab, col, dd, k0, k1, k2, k3, k5, ho, ht⟩
    · cases q
  · cases q
/-- one class of the program's refusals: all that is asked of it -/
structure Exk (K : PySem.W.Frag) (mg : Str → Option Value) (x : Str) : Prop where
  o : OexC K (He.ga K x)
  e : ExcC K (He.ga K x)
  f : XfC K (He.ga K x)
  row : PySem.W.findIn K (.ref (He.ga K x)) "row" = some none
  ini : PySem.W.findIn K (.ref (He.ga K x)) "__init__" = some (some (.ref (He.ma K (He.ga K "SlopeError") "__init__")))
  sub : PySem.W.exmOne K (.ref (He.ga K x)) (.ref (He.ga K "SlopeError")) = some true
  val : PySem.W.kitOne K (.ref (He.ga K x)) (.type "ValueError") = some true
  g : mg x = some (.ref (He.ga K x))
def exkB (K : PySem.W.Frag) (x : Str) : Bool := oexB K (He.ga K x) &&
  (decide (PySem.W.findIn K (.ref (He.ga K x)) "__setattr__" = some (some (.builtin "object.__setattr__"))) &&
  (decide (PySem.W.subIn K (.ref (He.ga K x)) (.type "BaseException") = some true) &&
  (decide (PySem.W.typeIn K (.ref (He.ga K x)) = some (.type "type")) &&
  (PySem.W.keepIn K (.ref (He.ga K x)) &&
  (decide (PySem.W.findIn K (.ref (He.ga K x)) "__getattribute__" = some (some (.builtin "BaseException.__getattribute__"))) &&
  (decide (PySem.W.findIn K (.ref (He.ga K x)) "__getattr__" = some none) &&
  (PySem.W.hasDictIn K (He.ga K x) &&
  (decide (PySem.W.findIn K (.ref (He.ga K x)) "__class__" = some (some (.builtin "object.__class__"))) &&
  (decide (PySem.W.specialIn K (.builtin "object.__class__") "__get__" = some (some (.builtin "getset_descriptor.__get__"))) &&
  (decide (PySem.W.takesIn K (.builtin "object.__class__") = some true) &&
  (decide (PySem.W.mroIn K (He.ga K x) (.type "object") = some true) &&
  (decide (PySem.W.findIn K (.ref (He.ga K x)) "row" = some none) &&
  (decide (PySem.W.findIn K (.ref (He.ga K x)) "__init__" = some (some (.ref (He.ma K (He.ga K "SlopeError") "__init__")))) &&
  (decide (PySem.W.exmOne K (.ref (He.ga K x)) (.ref (He.ga K "SlopeError")) = some true) &&
  (decide (PySem.W.kitOne K (.ref (He.ga K x)) (.type "ValueError") = some true) &&
  decide (PySem.W.nsIn K mainGlobals x = some (some (.ref (He.ga K x)))))))))))))))))))
theorem exkB_ok {K : PySem.W.Frag} {mg : Str → Option Value} {h : Heap} {x : Str} (X : K.In h) (G : h.Ns mainGlobals mg) (q : exkB K x = true) : Exk K mg x := by
  unfold exkB at q
  simp only [Bool.and_eq_true, decide_eq_true_eq] at q
  obtain ⟨q1, q2, q3, q4, q5, q6, q7, q8, q9, q10, q11, q12, q13, q14, q15, q16, q17⟩ := q
  exact ⟨⟨oexB_ok q1, q2, q3, q4, q5⟩, ⟨q6, q7, q3, q8, q9, q10, q11, q12⟩, ⟨q6, q7, q3, q8⟩, q13, q14, q15, q16, PySem.W.mg_of X G q17⟩
/-! ### isinstance of the exception that is handled -/
section
variable {X : Cx}
def rIsP (K : PySem.W.Frag) (D a dd : Addr) : List V → Hp → VK → Prop := fun xs H Q => ∃ (c : V) (cv : Value) (b : Bool) (fs : List (Str × V)), xs = [.ref a, c] ∧ (∀ u, RelV c u → u = cv) ∧ PySem.W.kitOne K (.ref D) cv = some b ∧ H dd = some (.xd fs) ∧ Q (.bl b) H
theorem call_isP {a D dd : Addr} {oe : Obj} (C : ExcC X.K D) (hz : Zc (.ref D) (some dd) oe) (hf : ∃ vs, oe.data = .fields vs) (hp : (a, oe) ∈ X.pn) : CallR X (.builtin "isinstance") (rIsP X.K D a dd) := by
  intro pins s σ H xs us Q I r h
  obtain ⟨c, cv, b, fs, rfl, hcv, e, hx, q⟩ := h
  cases r with
  | cons rx rr =>
    cases rr with
    | cons rt rr =>
      cases rr
      cases rx
      have ec := hcv _ rt
      subst ec
      obtain ⟨hget, _⟩ := I.pin (a, oe) (List.mem_append_left _ hp)
      obtain ⟨vs, hv⟩ := hf
      have ho : ObjOk X.prog X.w H s.heap dd (.xd fs) := I.hok dd _ hx
      obtain ⟨mA, hns, _⟩ := ho
      obtain ⟨od, hod, _⟩ := lookIn_ns hns
      have J : PySem.W.InstAt s.heap a oe D (some od) := ⟨hget, hz.1, by unfold PySem.W.notCls; rw [hv] <;> rfl, by rw [hz.2]; exact hod⟩
      have hcl : (PySem.W.clsIn X.K D).isSome = true := by
        obtain ⟨cd, hc, _⟩ := PySem.W.any_some C.hd
        rw [hc]
        rfl
      exact PySem.W.kia_one (PySem.W.kitx_exc hcl C.hg C.hk C.hs C.ha C.hn C.ht C.hm) I.kIn J e (fun z => nomatch z) fun tk => ⟨.bl b, H, I.kept (t' := tk) fun _ _ z => z, rfl, q⟩
end
/-! ### raise C(e, ..), C an own class over ValueError with an __init__ that keeps row -/
section
variable {X : Cx}
theorem pmk_oexN {CX : CXT} {x : Str} {e : Expr} {es : List Expr} {ta : TA} {p pos : Pos} {C fI : Addr} {k : Nat} {fd : FuncData} {ps : List Str} {sp : Sp} {ds : List Value} {dvs : List V} (T : OexC X.K C) (iC : PySem.W.findIn X.K (.ref C) "__init__" = some (some (.ref fI))) (tI : PySem.W.typeIn X.K (.ref fI) = some (.type "function"))
    (F1 : FnOk X.prog X.w X.K X.mg X.base CX k fI fd ps sp) (hr : Room (k + 1) X.A) (hb : Binds X.K fd ps ds) (hd : Vals dvs ds) (hx : Passes CX X (fun _ _ _ => False)) (hg : Gl X x) (hm : X.mg x = some (.ref C)) (ha : PA X (e :: es) ta)
    (hdb : (x == ("__debug__" : Str)) = false := by decide) (he : starEach (e :: es) X.env = (false, eval e X.env) :: starEach es X.env := by rfl) (hpl : (backTo pos (starEach es X.env)).any (·.1) = false := by rfl) :
    L2N.PMk X (.Call (.Name x p) (e :: es) [] pos) (tMkO C sp dvs ta) := by
  intro pins s σ H Q I h
  obtain ⟨nm, q, N, bs, bm, sn, sub, ab, col, dd, k0, k1, k2, k3, k5, hC, hbm⟩ := T.cls
  refine wpAny_Call_Name_kw (ld_glob I hg hm ?_ hdb)
  refine PySem.W.callWith_K (h₀ := X.base) I.ok.mod.kin T.kC (thn (ha.run pos pins s σ H _ I h) fun us s1 ⟨vs, H1, I1, r1, hz, q1⟩ => ⟨I1.kIn, ?_⟩) he hpl
  show wpAny _ _ (call (.ref C) us) _ _ _
  obtain ⟨hp, g, dr, tk, os⟩ := s1
  have hsz : hp.objs.size ≤ hp.objs.size + 1 := Nat.le_succ _
  have hq := q1 (hp.objs.size + 1) (I1.hok.fresh hsz)
  have kk : ∀ b o, hp.get? b = some o → ((hp.push (PySem.W.kdv_tup us)).push (PySem.HandSPX.excO C hp.objs.size)).get? b = some o := fun b o e => Heap.get?_push_of_some _ (Heap.get?_push_of_some _ e)
  have hget : ((hp.push (PySem.W.kdv_tup us)).push (PySem.HandSPX.excO C hp.objs.size)).get? (hp.objs.size + 1) = some (PySem.HandSPX.excO C hp.objs.size) := by heap_get
  have I2 : Inv X pins σ (upd H1 (hp.objs.size + 1) (exo (hp.objs.size + 1) C none)) ⟨(hp.push (PySem.W.kdv_tup us)).push (PySem.HandSPX.excO C hp.objs.size), g, dr, tk, os⟩ :=
    I1.laid (t' := tk) (a := hp.objs.size + 1) (o := exo (hp.objs.size + 1) C none) (h' := (hp.push (PySem.W.kdv_tup us)).push (PySem.HandSPX.excO C hp.objs.size)) kk hsz (exo_ok hget)
  have r2 : Vals (V.ref (hp.objs.size + 1) :: (vs ++ dvs)) (Value.ref (hp.objs.size + 1) :: (us ++ ds)) := .cons rfl (r1.append hd)
  have hl : (Value.ref (hp.objs.size + 1) :: us ++ ds).length = ps.length := by
    have e := r2.length
    rw [F1.len _ _ _ _ hq] at e
    exact e.symm
  have hus : us.length ≤ sizeLine := by
    rw [← Paired.length r1, sizeLine_eq]
    omega
  refine wpAny_call (PySem.HandSPX.call_own F.excBase_ValueError (fun Y => PySem.HandSPX.refsVE_contains Y bm hbm) (I1.kIn _ _ hC) (PySem.W.looks_findIn I1.kIn iC) (fun self => PySem.W.bind_fn I1.kIn self tI) hus
    (codeAny_mono (F1.run _ X.stack _ _ ⟨Value.ref (hp.objs.size + 1) :: us, []⟩ (Value.ref (hp.objs.size + 1) :: (us ++ ds)) _ _ (fun _ _ _ => False) (hr.make C us []) (I2.env0.make C us []) (hb _ (Value.ref (hp.objs.size + 1) :: us) I2.kIn hl) r2 hq) fun r s' hq' => ?_))
  cases r with
  | error er => exact hx pins σ _ _ er s' I2 hq'
  | ok fl =>
    cases fl with
    | ret u =>
      obtain ⟨v, H2, os2, bare2, un2, hok2, rv, ev, d, fs, ea, ed, hd1, q2⟩ := hq'
      subst ev
      obtain ⟨h2, g2, d2, t2, os'⟩ := s'
      obtain ⟨t0, G, J, kG, ge, hoe, na⟩ := mk_end0 (d2 := d2) (t2 := t2) I1 hsz kk un2 hok2 os2 bare2 ea ed hd1
      refine ⟨rv, hp.objs.size + 1, _, _, ⟨G, g2, d2, t2, os'⟩, _, .ref C, some d, rfl, J, kG, ge, hoe, ⟨rfl, rfl, fun vs hv => ?_⟩, rfl, rfl, na, rfl, bare2, raises_own T.exC T.tyC, q2⟩
      cases hv
      rfl
    | next => exact False.elim hq'
    | brk => exact False.elim hq'
    | cont => exact False.elim hq'
end
def spInit (K : PySem.W.Frag) : Sp := fun vs H Q _ => ∃ (a C : Addr) (w r : V), vs = [.ref a, w, r] ∧ OexC K C ∧ PySem.W.findIn K (.ref C) "row" = some none ∧ H a = some (exo a C none) ∧ ∀ d, H d = none → d ≠ a → Q .non (upd (upd H d (exd d [("row", r)])) a (exo a C (some d)))
/-- SlopeError.__init__ keeps its promise; dv: the defaults that fill up -/
structure IniOk (P : Program) (w : World) (K : PySem.W.Frag) (mg : Str → Option Value) (base : Heap) (dv : List V) : Prop where
  ex : ∃ fd ds, FnOk P w K mg base (L2N.CX P w) 1 (He.ma K (He.ga K "SlopeError") "__init__") fd ["self", "words", "row"] (spInit K) ∧ Vals dv ds ∧ Binds K fd ["self", "words", "row"] ds
  ty : PySem.W.typeIn K (.ref (He.ma K (He.ga K "SlopeError") "__init__")) = some (.type "function")
def RzL (K : PySem.W.Frag) (C : Addr) (dv : List V) (W : WX) (σ : L2.St) (vs : List V) (H1 : Hp) : Prop := vs.length ≤ 1000 ∧ ∀ a, H1 a = none → spInit K (.ref a :: (vs ++ dv)) (upd H1 a (exo a C none))
  (fun v H2 => v = .non ∧ ∃ (d : Addr) (fs : List (Str × V)), H2 a = some (exo a C (some d)) ∧ H2 d = some (exd d fs) ∧ H1 d = none ∧ W (.ref C) (some d) σ (upd (del H2 a) d (.xd fs))) (fun _ _ _ => False)
def tRz (K : PySem.W.Frag) (C : Addr) (W : WX) (dv : List V) (ta : TA) : TS := fun _ σ H => ta σ H fun vs H1 => RzL K C dv W σ vs H1
theorem w_rz {K : PySem.W.Frag} {C : Addr} {W : WX} {dv : List V} {ta : TA} {D : Ends} {σ : L2.St} {H : Hp} (h : ta σ H fun vs H1 => RzL K C dv W σ vs H1) : tRz K C W dv ta D σ H := h
theorem rzL {K : PySem.W.Frag} {mg : Str → Option Value} {x : Str} {dv vs : List V} {W : WX} {σ : L2.St} {H1 : Hp} (Z : Exk K mg x) (w r : V) (ev : vs ++ dv = [w, r]) (hq : ∀ d H2, H1 d = none → H2 d = some (.xd [("row", r)]) → Same H1 H2 → W (.ref (He.ga K x)) (some d) σ H2) : RzL K (He.ga K x) dv W σ vs H1 := by
  have hl : vs.length ≤ 2 := by
    have := congrArg List.length ev
    rw [List.length_append] at this
    have e2 : ([w, r] : List V).length = 2 := rfl
    omega
  refine ⟨by omega, fun a na => ?_⟩
  refine ⟨a, He.ga K x, w, r, by rw [ev], Z.o, Z.row, upd_same, fun d nd nda => ⟨rfl, d, [("row", r)], ?_, ?_, ?_, ?_⟩⟩
  · rw [upd_same]
  · rw [upd_ne nda, upd_same]
  · rw [upd_ne nda] at nd
    exact nd
  · have nd' : H1 d = none := by
      rw [upd_ne nda] at nd
      exact nd
    refine hq d _ nd' upd_same fun b o hb => ?_
    have n1 : b ≠ d := ne_of_none hb nd'
    have n2 : b ≠ a := ne_of_none hb na
    rw [upd_ne n1, del_ne n2, upd_ne n2, upd_ne n1, upd_ne n2]
    exact hb
theorem passN {X : Cx} : Passes (L2N.CX X.prog X.w) X (fun _ _ _ => False) := fun _ _ _ _ _ _ _ h => by
  obtain ⟨_, _, _, _, _, _, _, _, _, _, _, _, z⟩ := h
  exact z.elim
section
variable {X : Cx}
theorem ps_rz {x : Str} {W : WX} {e : Expr} {es : List Expr} {ta : TA} {dv : List V} {p pos pos2 : Pos} {k : Nat} (Z : Exk X.K X.mg x) (F : IniOk X.prog X.w X.K X.mg X.base dv) (hc : X.calm = true) (hr : Room k X.A) (hk : 2 ≤ k) (tk : L2N.Takes X W) (ha : PA X (e :: es) ta) (hg : Gl X x := by rfl)
    (hdb : (x == ("__debug__" : Str)) = false := by decide) (he : starEach (e :: es) X.env = (false, eval e X.env) :: starEach es X.env := by rfl) (hpl : (backTo pos (starEach es X.env)).any (·.1) = false := by rfl) :
    PS X (.Raise (some (.Call (.Name x p) (e :: es) [] pos)) none pos2) (tRz X.K (He.ga X.K x) W dv ta) := by
  obtain ⟨fd, ds, F1, hd, hb⟩ := F.ex
  exact L2N.ps_raise (pos := pos2) hc tk (pmk_oexN (p := p) (pos := pos) Z.o Z.ini F.ty F1 (hr.mono hk) hb hd passN hg Z.g ha hdb he hpl)
end
/-! ### a def called within an except suite: it knows the exception that is handled (at a, its class cls, its dict d) -/
abbrev SpX := Addr → Value → Option Addr → Sp
structure CalX (P : Program) (w : World) (K : PySem.W.Frag) (mg : Str → Option Value) (base : Heap) (k : Nat) (x : Str) (ps : List Str) (sp : SpX) : Prop where
  ex : ∃ f fd, (∀ a cls d vs H Q E, sp a cls d vs H Q E → vs.length = ps.length) ∧
    (∀ (A : Around) (outer : List Env) (s : Shared) (H : Hp) (args : Args) (us : List Value) (vs : List V) (Q : VK) (E : XK) (p : Addr × Obj) (cls : Value) (d : Option Addr), L2H.RoomH k A → L2H.Hot1 A p → Zc cls d p.2 → L2H.PinOk outer H s p → Env0 P w K mg base A outer s H →
      BindsTo s fd args (ps.zip us) → Vals vs us → sp p.1 cls d vs H Q E → codeAny (model P w) A (.call (.ref f) args) (CR (L2N.CX P w) outer P w H s Q E) s) ∧
    Binds K fd ps [] ∧ mg x = some (.ref f) ∧ PySem.W.keepIn K (.ref f) = true
section
variable {P : Program} {w : World} {K : PySem.W.Frag} {mg : Str → Option Value} {base : Heap}
theorem calX_of {x : Str} {st : Stmt} {N ps : List Str} {k : Nat} {sp : SpX} (F : Fw.Def K mg x st) (S : FnScope N ps (defScope st)) (b : Fw.BindsOk x x ps st) (len : ∀ a cls d vs H Q E, sp a cls d vs H Q E → vs.length = ps.length)
    (hbody : ∀ (cdv : Value) (A : Around) (outer : List Env) (s : Shared) (H : Hp) (vs : List V) (Q : VK) (E : XK) (a : Addr) (oe : Obj) (cls : Value) (d : Option Addr), L2H.Hot1 A (a, oe) → Zc cls d oe → L2H.RoomH k (A.deeper (envOfC x (defScope st) s.heap.objs.size (He.ga K x) cdv)) → sp a cls d vs H Q E →
      ∃ t, PSs (L2H.cxH (L2N.CX P w) P w K mg base N x (defScope st) (He.ga K x) cdv A outer s H E (a, oe)) (defBody st) t ∧ t { nx := fun _ H' => Q .non H', rt := Q } (L2.start N vs) H) : CalX P w K mg base (k + 1) x ps sp := by
  obtain ⟨⟨fd, F⟩, g⟩ := F
  have bN := F.bindsN b
  have kp := F.kp
  obtain ⟨oc, od, dV, kV, doc, pm, an, cdv, ct, osl, rfl, lk, hcd, _, _⟩ := F.ex
  refine ⟨_, _, len, fun A outer s H args us vs Q E p cls d hr hot hz hpin e0 hb r hsp => ?_, bN, g, kp⟩
  have hl := len _ _ _ _ _ _ _ hsp
  have KX : K.In s.heap := e0.mod.kin.keeps fun b o e => (e0.bs b o e).1
  have lim : s.heap.NoLimit := e0.mod.nolimit.keeps fun b o e => (e0.bs b o e).1
  have hkind : ∀ y ∈ ps.zip us, (defScope st).names.lookup y.1 = some .local ∨ ((defScope st).names.lookup y.1 = some .cell ∧ ((cellsFrom (s.heap.objs.size + 1) (defScope st).names []).lookup y.1).isSome = true) := fun ⟨n, v⟩ hy => by
    rcases S.par n (List.of_mem_zip hy).1 with q | q
    · exact .inl q
    · exact .inr ⟨q, PySem.W.cellsFrom_some _ _ _ (.inl q)⟩
  refine codeAny_call_function hr.depth (KX _ _ lk) rfl S.co S.gen rfl (PySem.W.codeRec_of KX hcd) (hb _ _ _ _ ?_)
  refine wpAny_newFunctionEnv_cells S.kind hkind fun env he s1 x1 => ?_
  subst he
  refine ⟨lim.keeps x1.toInCall.keep, codeAny_func ?_⟩
  obtain ⟨t, ht, hq⟩ := hbody cdv A outer s H vs Q E p.1 p.2 cls d hot hz (hr.deeper _) hsp
  have I : Inv (L2H.cxH (L2N.CX P w) P w K mg base N x (defScope st) (He.ga K x) cdv A outer s H E p) [] (L2.start N vs) H s1 := L2H.inv_startH S hpin e0 hl r x1
  refine wpAny_mono (ht.run [] s1 (L2.start N vs) H _ I hq) (fun fl s' hs => ?_) fun e s' hs => hs
  have fin : ∀ {σ' : L2.St} {H' : Hp} {v : V} {u : Value}, Inv (L2H.cxH (L2N.CX P w) P w K mg base N x (defScope st) (He.ga K x) cdv A outer s H E p) [] σ' H' s' → RelV v u → Q v H' → CE outer P w H s Q u s' :=
    fun {σ' H' v u} J rv q => ⟨v, H', J.os, J.bare, J.base, J.hok, rv, q⟩
  cases fl with
  | ret u =>
    obtain ⟨v, σ', H', J, rv, q⟩ := hs
    exact fin J rv q
  | next =>
    obtain ⟨σ', H', J, q⟩ := hs
    exact fin (v := V.non) (u := Value.none) J rfl q
  | brk =>
    obtain ⟨_, _, _, q⟩ := hs
    exact False.elim q
  | cont =>
    obtain ⟨_, _, _, q⟩ := hs
    exact False.elim q
end
def tCalX (sp : Sp) (t : TA) : TE := fun σ H Q => t σ H fun vs H1 => sp vs H1 Q (fun _ _ _ => False)
theorem w_calX {sp : Sp} {t : TA} {σ : L2.St} {H : Hp} {Q : VK} (h : t σ H fun vs H1 => sp vs H1 Q (fun _ _ _ => False)) : tCalX sp t σ H Q := h
section
variable {X : Cx}
theorem pe_calX {k j : Nat} {x : Str} {ps : List Str} {sp : SpX} {e : Expr} {es : List Expr} {t : TA} {q pos : Pos} {a : Addr} {oe : Obj} {cls : Value} {d : Option Addr} {pn : List (Addr × Obj)} (c : CalX X.prog X.w X.K X.mg X.base j x ps sp) (hr : Room k X.A) (hj : j ≤ k)
    (hz : L2N.Zn cls d oe) (hf : ∃ vs, oe.data = .fields vs) (ha : PA (X.suite a ((a, oe) :: pn)) (e :: es) t) (hg : Gl X x := by rfl)
    (hdb : (x == ("__debug__" : Str)) = false := by decide) (he : starEach (e :: es) X.env = (false, eval e X.env) :: starEach es X.env := by rfl) (hpl : (backTo pos (starEach es X.env)).any (·.1) = false := by rfl) :
    PE (X.suite a ((a, oe) :: pn)) (.Call (.Name x q) (e :: es) [] pos) (tCalX (sp a cls d) t) := by
  obtain ⟨f, fd, hlen, hrun, hb, hm, hk⟩ := c.ex
  refine ⟨fun pins s σ H Q I h => ?_⟩
  refine wpAny_Call_Name_kw (ld_glob (X := X.suite a ((a, oe) :: pn)) I hg hm ?_ hdb)
  refine PySem.W.callWith_K (h₀ := X.base) I.ok.mod.kin hk (thn (ha.run pos pins s σ H _ I h) fun us s1 hh => ?_) he hpl
  obtain ⟨vs, H1, I1, r, q1⟩ := hh
  refine ⟨I1.kIn, ?_⟩
  have hl : us.length = ps.length := by rw [← r.length]; exact hlen _ _ _ _ _ _ _ q1
  have b := hb s1 us I1.kIn (by rw [List.append_nil]; exact hl)
  rw [List.append_nil] at b
  have P1 := I1.pin (a, oe) (List.mem_append_left _ List.mem_cons_self)
  have hpin : L2H.PinOk X.stack H1 s1 (a, oe) := ⟨P1.1, P1.2.1, fun hm => (List.mem_cons.mp (I1.stkSub a hm)).elim P1.2.2.1 P1.2.2.2.1, P1.2.2.2.2⟩
  obtain ⟨fv, hfv⟩ := hf
  have hot : L2H.Hot1 (X.suite a ((a, oe) :: pn)).A (a, oe) := ⟨rfl, fv, hfv, hz.2.2 fv hfv⟩
  refine wpAny_call (codeAny_mono (hrun (X.suite a ((a, oe) :: pn)).A X.stack s1 H1 ⟨us, []⟩ us vs Q (fun _ _ _ => False) (a, oe) cls d ((L2H.roomH_mark hr _).mono hj) hot hz.zc hpin I1.env0 b r q1) fun r2 s' hq => ?_)
  cases r2 with
  | error er =>
    obtain ⟨_, _, _, _, _, _, _, _, _, _, _, _, z⟩ := hq
    exact z.elim
  | ok fl =>
    cases fl with
    | ret u => exact I1.after hq
    | next => exact False.elim hq
    | brk => exact False.elim hq
    | cont => exact False.elim hq
/-- e.row, e the exception that the suite holds -/
def tRow (K : PySem.W.Frag) (a : Addr) (cls : Value) (d : Option Addr) (te : TE) : TE := fun σ H Q => te σ H fun x H1 => ∃ (C dd : Addr) (fs : List (Str × V)) (v : V), x = .ref a ∧ cls = .ref C ∧ XfC K C ∧ PySem.W.findIn K (.ref C) "row" = some none ∧ d = some dd ∧ H1 dd = some (.xd fs) ∧ List.lookup ("row" : Str) fs = some v ∧ Q v H1
theorem w_row {K : PySem.W.Frag} {a : Addr} {cls : Value} {d : Option Addr} {te : TE} {σ : L2.St} {H : Hp} {Q : VK} (h : te σ H fun x H1 => ∃ (C dd : Addr) (fs : List (Str × V)) (v : V), x = .ref a ∧ cls = .ref C ∧ XfC K C ∧ PySem.W.findIn K (.ref C) "row" = some none ∧ d = some dd ∧ H1 dd = some (.xd fs) ∧ List.lookup ("row" : Str) fs = some v ∧ Q v H1) : tRow K a cls d te σ H Q := h
theorem pe_row {a : Addr} {oe : Obj} {cls : Value} {d : Option Addr} {pn : List (Addr × Obj)} {e : Expr} {te : TE} {pos : Pos} (hz : L2N.Zn cls d oe) (hf : ∃ vs, oe.data = .fields vs) (he : PE (X.suite a ((a, oe) :: pn)) e te) (hb : attributeBase e "row" X.env (eval e X.env) = eval e X.env := by rfl) :
    PE (X.suite a ((a, oe) :: pn)) (.Attribute e "row" pos) (tRow X.K a cls d te) := by
  refine ⟨fun pins s σ H Q I h => ?_⟩
  refine attr_of hb (thn (he.run pins s σ H _ I h) fun u s1 hh => ?_)
  obtain ⟨x, H1, I1, rx, C, dd, fs, v, ex, ec, T, hno, ed, ea, l, q⟩ := hh
  subst ex ec ed
  obtain rfl : u = Value.ref a := rx
  obtain ⟨ha, _⟩ := I1.pin (a, oe) (List.mem_append_left _ List.mem_cons_self)
  obtain ⟨vs, hd⟩ := hf
  have hx : ObjOk X.prog X.w H1 s1.heap dd (.xd fs) := I1.hok dd _ ea
  obtain ⟨mA, hns, hr⟩ := hx
  obtain ⟨od, ho, hl⟩ := lookIn_ns hns
  obtain ⟨u, hu, ru⟩ := RelO.some_of (v := v) (o := mA "row") (by rw [← l]; exact hr "row")
  have J : PySem.W.InstAt s1.heap a oe C (some od) := ⟨ha, hz.1, by unfold PySem.W.notCls; rw [hd] <;> rfl, by rw [hz.2.1]; exact ho⟩
  exact HandSPX.exc_get I1.kIn J T.ga T.gg T.exC (PySem.W.findObj_own T.hdC hno rfl (by rw [hl, hu])) (handed_of ru) ⟨v, H1, I1.tok _, ru, q⟩
/-- a call in a try's body -/
theorem pe_calS {k j : Nat} {x : Str} {ps : List Str} {sp : Sp} {W : WX} {p pos : Pos} {e : Expr} {es : List Expr} {t : TA} (c : Fw.Cal X.prog X.w X.K X.mg X.base j x ps sp) (hr : Room k X.A) (hj : j ≤ k) (tk : L2N.Takes X W) (ha : PA X (e :: es) t) (hg : Gl X x := by rfl)
    (hdb : (x == ("__debug__" : Str)) = false := by decide) (he : starEach (e :: es) X.env = (false, eval e X.env) :: starEach es X.env := by rfl) (hpl : (backTo pos (starEach es X.env)).any (·.1) = false := by rfl) :
    PE X (.Call (.Name x p) (e :: es) [] pos) (tCallS sp (WE W) t) := by
  obtain ⟨f, fd, F, b, g, kp⟩ := c.ex
  exact pe_callS (F.mono hj) hr hg g kp b (fun σ => L2N.passAt tk σ) ha hdb he hpl
theorem w_calS {sp : Sp} {E : L2.St → XK} {t : TA} {σ : L2.St} {H : Hp} {Q : VK} (h : t σ H fun vs H1 => sp vs H1 Q (E σ)) : tCallS sp E t σ H Q := h
end
theorem isP {X : Cx} {K : PySem.W.Frag} {a D dd : Addr} {oe : Obj} (h : X.K = K) (C : ExcC K D) (hz : Zc (.ref D) (some dd) oe) (hf : ∃ vs, oe.data = .fields vs) (hp : (a, oe) ∈ X.pn) : CallR X (.builtin "isinstance") (rIsP K D a dd) := by
  subst h
  exact call_isP C hz hf hp
theorem w_isP {K : PySem.W.Frag} {D a dd C : Addr} {b : Bool} {fs : List (Str × V)} {H : Hp} {Q : VK} (e : PySem.W.kitOne K (.ref D) (.ref C) = some b) (hx : H dd = some (.xd fs)) (q : Q (.bl b) H) : rIsP K D a dd [.ref a, .ref C] H Q := ⟨.ref C, .ref C, b, fs, rfl, fun _ z => z, e, hx, q⟩
theorem w_isPT {K : PySem.W.Frag} {D a dd : Addr} {n : String} {b : Bool} {fs : List (Str × V)} {H : Hp} {Q : VK} (e : PySem.W.kitOne K (.ref D) (.type n) = some b) (hx : H dd = some (.xd fs)) (q : Q (.bl b) H) : rIsP K D a dd [.ref a, .ty n] H Q := ⟨.ty n, .type n, b, fs, rfl, fun _ z => z, e, hx, q⟩
end Htx

namespace Lw
open PySem PySem.Spec PyProof.Rows L2 Fw Htx
def topS (i : Nat) : Stmt := PySem.Challenge.pw_slopesback_k02_four_signs.main.body.getD i (.Pass ⟨0, 0, 0, 0⟩)
abbrev s_SlopeError___init__ : Stmt := inClass (topS 1) 0
theorem sc_SlopeError___init__ : FnScope ["self", "words", "row"] ["self", "words", "row"] (defScope s_SlopeError___init__) := ⟨rfl, rfl, rfl, by decide +kernel, rfl, by decide +kernel, by decide +kernel⟩
theorem b_SlopeError___init__ : Fw.BindsOk "__init__" "SlopeError.__init__" ["self", "words", "row"] s_SlopeError___init__ := fun _ _ _ _ _ _ us hl => match us, hl with | [_, _, _], _ => rfl
abbrev s_made : Stmt := topS 13
theorem sc_made : FnScope ["top", "bottom", "one", "two", "rest"] ["top", "bottom"] (defScope s_made) := ⟨rfl, rfl, rfl, by decide +kernel, rfl, by decide +kernel, by decide +kernel⟩
theorem b_made : Fw.BindsOk "made" "made" ["top", "bottom"] s_made := fun _ _ _ _ _ _ us hl => match us, hl with | [_, _], _ => rfl
abbrev s_added : Stmt := topS 14
theorem sc_added : FnScope ["one", "two"] ["one", "two"] (defScope s_added) := ⟨rfl, rfl, rfl, by decide +kernel, rfl, by decide +kernel, by decide +kernel⟩
theorem b_added : Fw.BindsOk "added" "added" ["one", "two"] s_added := fun _ _ _ _ _ _ us hl => match us, hl with | [_, _], _ => rfl
abbrev s_lessened : Stmt := topS 15
theorem sc_lessened : FnScope ["one", "two"] ["one", "two"] (defScope s_lessened) := ⟨rfl, rfl, rfl, by decide +kernel, rfl, by decide +kernel, by decide +kernel⟩
theorem b_lessened : Fw.BindsOk "lessened" "lessened" ["one", "two"] s_lessened := fun _ _ _ _ _ _ us hl => match us, hl with | [_, _], _ => rfl
abbrev s_multiplied : Stmt := topS 16
theorem sc_multiplied : FnScope ["one", "two"] ["one", "two"] (defScope s_multiplied) := ⟨rfl, rfl, rfl, by decide +kernel, rfl, by decide +kernel, by decide +kernel⟩
theorem b_multiplied : Fw.BindsOk "multiplied" "multiplied" ["one", "two"] s_multiplied := fun _ _ _ _ _ _ us hl => match us, hl with | [_, _], _ => rfl
abbrev s_divided : Stmt := topS 17
theorem sc_divided : FnScope ["one", "two"] ["one", "two"] (defScope s_divided) := ⟨rfl, rfl, rfl, by decide +kernel, rfl, by decide +kernel, by decide +kernel⟩
theorem b_divided : Fw.BindsOk "divided" "divided" ["one", "two"] s_divided := fun _ _ _ _ _ _ us hl => match us, hl with | [_, _], _ => rfl
abbrev s_worked : Stmt := topS 19
theorem sc_worked : FnScope ["sign", "one", "two"] ["sign", "one", "two"] (defScope s_worked) := ⟨rfl, rfl, rfl, by decide +kernel, rfl, by decide +kernel, by decide +kernel⟩
theorem b_worked : Fw.BindsOk "worked" "worked" ["sign", "one", "two"] s_worked := fun _ _ _ _ _ _ us hl => match us, hl with | [_, _, _], _ => rfl
abbrev s_l_dice : Stmt := topS 21
theorem sc_l_dice : FnScope ["_law_script", "_law_mixed", "_law_cell"] ["_law_script"] (defScope s_l_dice) := ⟨rfl, rfl, rfl, by decide +kernel, rfl, by decide +kernel, by decide +kernel⟩
theorem b_l_dice : Fw.BindsOk "_law_dice" "_law_dice" ["_law_script"] s_l_dice := fun _ _ _ _ _ _ us hl => match us, hl with | [_], _ => rfl
abbrev s_l_next : Stmt := topS 22
theorem sc_l_next : FnScope ["_law_dice_here", "_law_many", "_law_cell"] ["_law_dice_here", "_law_many"] (defScope s_l_next) := ⟨rfl, rfl, rfl, by decide +kernel, rfl, by decide +kernel, by decide +kernel⟩
theorem b_l_next : Fw.BindsOk "_law_next" "_law_next" ["_law_dice_here", "_law_many"] s_l_next := fun _ _ _ _ _ _ us hl => match us, hl with | [_, _], _ => rfl
abbrev s_l_whole : Stmt := topS 23
theorem sc_l_whole : FnScope ["_law_found"] ["_law_found"] (defScope s_l_whole) := ⟨rfl, rfl, rfl, by decide +kernel, rfl, by decide +kernel, by decide +kernel⟩
theorem b_l_whole : Fw.BindsOk "_law_whole" "_law_whole" ["_law_found"] s_l_whole := fun _ _ _ _ _ _ us hl => match us, hl with | [_], _ => rfl
abbrev s_l_is : Stmt := topS 24
theorem sc_l_is : FnScope ["_law_e", "_law_word", "_law_kinds", "_law_words", "_law_one"] ["_law_e", "_law_word"] (defScope s_l_is) := ⟨rfl, rfl, rfl, by decide +kernel, rfl, by decide +kernel, by decide +kernel⟩
theorem b_l_is : Fw.BindsOk "_law_is" "_law_is" ["_law_e", "_law_word"] s_l_is := fun _ _ _ _ _ _ us hl => match us, hl with | [_, _], _ => rfl
abbrev s_l_same : Stmt := topS 25
theorem sc_l_same : FnScope ["_law_found", "_law_due"] ["_law_found", "_law_due"] (defScope s_l_same) := ⟨rfl, rfl, rfl, by decide +kernel, rfl, by decide +kernel, by decide +kernel⟩
theorem b_l_same : Fw.BindsOk "_law_same" "_law_same" ["_law_found", "_law_due"] s_l_same := fun _ _ _ _ _ _ us hl => match us, hl with | [_, _], _ => rfl
abbrev s_l_cut : Stmt := topS 26
theorem sc_l_cut : FnScope ["_law_top", "_law_bottom", "_law_one", "_law_two", "_law_rest"] ["_law_top", "_law_bottom"] (defScope s_l_cut) := ⟨rfl, rfl, rfl, by decide +kernel, rfl, by decide +kernel, by decide +kernel⟩
theorem b_l_cut : Fw.BindsOk "_law_cut" "_law_cut" ["_law_top", "_law_bottom"] s_l_cut := fun _ _ _ _ _ _ us hl => match us, hl with | [_, _], _ => rfl
abbrev s_l_worked : Stmt := topS 27
theorem sc_l_worked : FnScope ["_law_sign", "_law_a", "_law_b"] ["_law_sign", "_law_a", "_law_b"] (defScope s_l_worked) := ⟨rfl, rfl, rfl, by decide +kernel, rfl, by decide +kernel, by decide +kernel⟩
theorem b_l_worked : Fw.BindsOk "_law_worked" "_law_worked" ["_law_sign", "_law_a", "_law_b"] s_l_worked := fun _ _ _ _ _ _ us hl => match us, hl with | [_, _, _], _ => rfl
abbrev s_l_fraction : Stmt := topS 28
theorem sc_l_fraction : FnScope ["_law_dice_here", "_law_far", "_law_top", "_law_low"] ["_law_dice_here"] (defScope s_l_fraction) := ⟨rfl, rfl, rfl, by decide +kernel, rfl, by decide +kernel, by decide +kernel⟩
theorem b_l_fraction : Fw.BindsOk "_law_fraction" "_law_fraction" ["_law_dice_here"] s_l_fraction := fun _ _ _ _ _ _ us hl => match us, hl with | [_], _ => rfl
abbrev s_l_by : Stmt := topS 29
theorem sc_l_by : FnScope ["_law_sign", "_law_one", "_law_two"] ["_law_sign", "_law_one", "_law_two"] (defScope s_l_by) := ⟨rfl, rfl, rfl, by decide +kernel, rfl, by decide +kernel, by decide +kernel⟩
theorem b_l_by : Fw.BindsOk "_law_by" "_law_by" ["_law_sign", "_law_one", "_law_two"] s_l_by := fun _ _ _ _ _ _ us hl => match us, hl with | [_, _, _], _ => rfl
abbrev s_l_refused : Stmt := topS 30
theorem sc_l_refused : FnScope ["_law_sign", "_law_one", "_law_two", "_law_way", "_law_e"] ["_law_sign", "_law_one", "_law_two", "_law_way"] (defScope s_l_refused) := ⟨rfl, rfl, rfl, by decide +kernel, rfl, by decide +kernel, by decide +kernel⟩
theorem b_l_refused : Fw.BindsOk "_law_refused" "_law_refused" ["_law_sign", "_law_one", "_law_two", "_law_way"] s_l_refused := fun _ _ _ _ _ _ us hl => match us, hl with | [_, _, _, _], _ => rfl
abbrev s_law : Stmt := topS 31
theorem sc_law : FnScope ["_law_script", "_law_dice_here", "_law_sign", "_law_one", "_law_two", "_law_due", "_law_turn"] ["_law_script"] (defScope s_law) := ⟨rfl, rfl, rfl, by decide +kernel, rfl, by decide +kernel, by decide +kernel⟩
theorem b_law : Fw.BindsOk "law" "law" ["_law_script"] s_law := fun _ _ _ _ _ _ us hl => match us, hl with | [_], _ => rfl
/-- the built-ins' names are free -/
structure Fre (mg : Str → Option Value) : Prop where
  f_len : mg "len" = none
  f_int : mg "int" = none
  f_bool : mg "bool" = none
  f_abs : mg "abs" = none
  f_tuple : mg "tuple" = none
  f_isinstance : mg "isinstance" = none
  f_ValueError : mg "ValueError" = none
  f_range : mg "range" = none
local macro_rules | `(tactic| walk_at "cond") => `(tactic| first | assumption | (with_reducible exact cdiv_small (by omega) (by omega)) | (with_reducible exact cmul_small (by omega) (by omega)) | (with_reducible exact cpow_mk (by omega) (by omega) (by omega)) | omega)
local macro_rules | `(tactic| walk_at "ne") => `(tactic| first | assumption | exact Ne.symm (by assumption) | exact ne_of_none (by assumption) (by assumption) | exact Ne.symm (ne_of_none (by assumption) (by assumption)))
local macro_rules | `(tactic| walk_at "at") => `(tactic| first
  | assumption
  | (with_reducible exact upd_same)
  | ((with_reducible refine' at_same ?hk ?hh); (case hk => assumption); (case hh => walk_at "at"))
  | ((with_reducible refine' at_keepT ?hk ?hh ?hd); (case hk => assumption); (case hh => walk_at "at"); (case hd => walk_at "at"))
  | ((with_reducible refine' at_keep ?hk ?hh ?hn); (case hk => assumption); (case hh => walk_at "at"); (case hn => walk_at "ne")))
local macro_rules | `(tactic| walk_at "hp") => `(tactic| first
  | assumption
  | ((with_reducible refine' SqT.of ?hq); (case hq => walk_at "at")) | ((with_reducible refine' SqL.of ?hq); (case hq => walk_at "at"))
  | ((with_reducible refine' sql_same ?hk ?hh); (case hk => assumption); (case hh => walk_at "hp"))
  | ((with_reducible refine' sql_keep ?hk ?hh ?hn); (case hk => assumption); (case hh => walk_at "hp"); (case hn => walk_at "ne"))
  | ((with_reducible refine' sqt_same ?hk ?hh); (case hk => assumption); (case hh => walk_at "hp")))
local macro_rules | `(tactic| walk_at "wp1") => `(tactic| first
  | with_reducible refine w_rz ?_ | with_reducible refine w_calX ?_ | with_reducible refine w_calS ?_ | with_reducible refine w_row ?_
  | with_reducible refine w_seq ?_ | with_reducible refine w_set ?_ | with_reducible refine w_drop ?_ | with_reducible refine w_ret ?_ | with_reducible refine w_ifS ?_ | with_reducible refine w_next ?_
  | ((with_reducible refine' w_var ?hv ?_); (case hv => rfl)) | with_reducible refine w_c ?_
  | with_reducible refine w_op ?_ | with_reducible refine w_un ?_ | with_reducible refine w_cb ?_ | with_reducible refine w_cal ?_ | with_reducible refine w_cons ?_ | with_reducible refine w_nil ?_
  | with_reducible refine w_plus ?_ | with_reducible refine w_minus ?_ | with_reducible refine w_lt ?_ | with_reducible refine w_le ?_ | with_reducible refine w_gt ?_ | with_reducible refine w_ge ?_
  | with_reducible refine w_eqI ?_ | with_reducible refine w_neI ?_ | with_reducible refine w_eqB ?_ | with_reducible refine w_neB ?_ | with_reducible refine w_eqS ?_ | with_reducible refine w_neS ?_
  | with_reducible refine w_neg ?_ | with_reducible refine w_abs ?_ | with_reducible refine w_intB ?_ | with_reducible refine w_test ?_ | with_reducible refine w_tB ?_ | with_reducible refine w_bl ?_
  | with_reducible refine w_and ?_ | with_reducible refine w_or ?_ | with_reducible refine w_not ?_ | with_reducible refine w_andV ?_ | with_reducible refine w_orV ?_ | with_reducible refine w_notV ?_ | with_reducible refine w_ifE ?_
  | with_reducible refine w_nyes ?_ | with_reducible refine w_nno ?_ | with_reducible refine w_yes ?_ | with_reducible refine w_no ?_
  | ((with_reducible refine' w_ixL ?ha ?hb ?_); (case ha => walk_at "hp"); (case hb => rfl)) | ((with_reducible refine' w_ixT ?ha ?hb ?_); (case ha => walk_at "hp"); (case hb => rfl))
  | ((with_reducible refine' w_lenL ?ha ?_); (case ha => walk_at "hp")) | ((with_reducible refine' w_lenT ?ha ?_); (case ha => walk_at "hp"))
  | with_reducible refine w_min2 ?_ | with_reducible refine w_max2 ?_ | with_reducible refine w_bm ?_ | with_reducible refine w_lc ?_ | ((with_reducible refine' w_tyL ?ha ?_); (case ha => walk_at "at"))
  | with_reducible refine isi_ii ?_ | with_reducible refine isi_ib ?_ | with_reducible refine isi_bb ?_ | with_reducible refine isi_ss ?_
  | ((with_reducible refine' isi_tt ?ha ?_); (case ha => walk_at "at")) | ((with_reducible refine' isi_ll ?ha ?_); (case ha => walk_at "at"))
  | with_reducible refine w_par ?_ | with_reducible refine w_par2 ?_ | with_reducible refine w_for ?_ | with_reducible refine w_iL ?_ | with_reducible refine w_iT ?_ | with_reducible refine w_iR1 ?_ | with_reducible refine w_iR2 ?_
  | with_reducible refine w_tup ?_ | with_reducible refine w_lst ?_
  | with_reducible refine w_asg ?_ | with_reducible refine w_gname ?_ | with_reducible refine w_gcons ?_ | with_reducible refine w_gnil ?_ | with_reducible refine w_gsub ?_
  | ((with_reducible refine' w_gtup ?ha ?hb ?_); (case ha => walk_at "hp"); (case hb => rfl))
  | ((with_reducible refine' w_fdiv ?hc ?_); (case hc => walk_at "cond")) | ((with_reducible refine' w_mul ?hc ?_); (case hc => walk_at "cond"))
  | ((with_reducible refine' w_mod ?hc ?_); (case hc => walk_at "cond")) | ((with_reducible refine' w_pow ?hc ?_); (case hc => walk_at "cond")))
local macro_rules | `(tactic| walk_at "wp") => `(tactic| repeat walk_at "wp1")
section
variable {P : Program} {w : World} {K : PySem.W.Frag} {mg : Str → Option Value} {base : Heap}
/-! ### the dice -/
/-- the script: locked, or of the written part -/
def SqS (K : PySem.W.Frag) (H : Hp) (a : Addr) (xs : List V) : Prop := (∃ o, H a = some (.frz o (.lst xs))) ∨ ∀ H', SqL K H' a xs
theorem SqS.of {K : PySem.W.Frag} {H : Hp} {a : Addr} {xs : List V} (hO : Only H) (h : SqL K H a xs) : SqS K H a xs := by
  rcases h with (h | ⟨o, h⟩) | h
  · rcases hO a with z | ⟨o, ys, z⟩ <;> (rw [h] at z; cases z)
  · exact .inl ⟨o, h⟩
  · exact .inr fun H' => .inr h
theorem SqS.sql {K : PySem.W.Frag} {H : Hp} {a : Addr} {xs : List V} (h : SqS K H a xs) : SqL K H a xs := by
  rcases h with ⟨o, h⟩ | h
  · exact .inl (.inr ⟨o, h⟩)
  · exact h H
theorem SqS.same {K : PySem.W.Frag} {H H' : Hp} {a : Addr} {xs : List V} (k : Same H H') (h : SqS K H a xs) : SqS K H' a xs := by
  rcases h with ⟨o, h⟩ | h
  · exact .inl ⟨o, k _ _ h⟩
  · exact .inr h
theorem SqS.keep {K : PySem.W.Frag} {H H' : Hp} {a d : Addr} {xs ys : List V} (k : Keep d H H') (hd : H d = some (.lst ys)) (h : SqS K H a xs) : SqS K H' a xs := by
  rcases h with ⟨o, h⟩ | h
  · exact .inl ⟨o, k _ _ (ne_of h hd (by intro z; cases z)) h⟩
  · exact .inr h
structure DiceAt (K : PySem.W.Frag) (H : Hp) (d : Addr) : Prop where
  ex : ∃ (a : Addr) (ns : List Int) (i x c : Int), H d = some (.lst [.ref a, .int i, .int x, .int c]) ∧ SqS K H a (ns.map V.int) ∧ 0 ≤ i ∧ 0 ≤ x ∧ x < 2147483647
theorem DiceAt.same {K : PySem.W.Frag} {H H' : Hp} {d : Addr} (k : Same H H') (h : DiceAt K H d) : DiceAt K H' d := by
  obtain ⟨a, ns, i, x, c, h1, h2, h3, h4, h5⟩ := h.ex
  exact ⟨a, ns, i, x, c, k _ _ h1, h2.same k, h3, h4, h5⟩


def spDice (K : PySem.W.Frag) : Sp := fun vs H Q _ => ∃ (a : Addr) (ns : List Int), vs = [.ref a] ∧ SqS K H a (ns.map V.int) ∧ ∀ d H', H d = none → DiceAt K H' d → Same H H' → Q (.ref d) H'
def spNext (K : PySem.W.Frag) : Sp := fun vs H Q _ => ∃ (d : Addr) (m : Int), vs = [.ref d, .int m] ∧ DiceAt K H d ∧ 0 < m ∧ m.natAbs.log2 < 9000 ∧ ∀ r H', 0 ≤ r → r < m → DiceAt K H' d → Keep d H H' → Q (.int r) H'
theorem c_l_next (F : Def K mg "_law_next" s_l_next) (T : Fre mg) : Cal P w K mg base 1 "_law_next" ["_law_dice_here", "_law_many"] (spNext K) := by
  refine cal_of F sc_l_next b_l_next (fun vs H Q E h => ?_) (fun cdv A outer s H vs Q E hr h => ?_)
  · obtain ⟨d, m, rfl, _⟩ := h
    rfl
  · obtain ⟨d, m, rfl, D, hm, hl, q⟩ := h
    refine ⟨_, (pss_cons (ps_asg (pe_tup (pa_cons (pe_ix (ixL (K := K) rfl) (pv 0) pe_int (fun _ _ => rfl)) (pa_cons (pe_op o_fdiv (pe_ix (ixL (K := K) rfl) (pv 0) pe_int (fun _ _ => rfl)) (pv 1)) pa_nil))) (pg_tup (n := 2) rfl (pgs_cons (pg_name (i := 2) sc_l_next.nd rfl (loc_of rfl)) (pgs_cons (pg_sub (pv 0) pe_int set_list) pgs_nil))))
      (pss_cons (ps_if (pt_cmpR op_eq (pv 2) pe_int (nomark _)) (pss_cons (ps_asg (pe_tup (pa_cons (pe_op o_add (pe_ix (ixL (K := K) rfl) (pv 0) pe_int (fun _ _ => rfl)) pe_int) (pa_cons (pe_op o_mod (pe_op o_mul (pe_ix (ixL (K := K) rfl) (pv 0) pe_int (fun _ _ => rfl)) pe_int) pe_int) pa_nil))) (pg_tup (n := 2) rfl (pgs_cons (pg_sub (pv 0) pe_int set_list) (pgs_cons (pg_sub (pv 0) pe_int set_list) pgs_nil))))
      (pss_cons (ps_set (i := 2) sc_l_next.nd rfl (loc_of rfl) (pe_ifExp (pt_cmpR o_le (pe_ix (ixL (K := K) rfl) (pv 0) pe_int (fun _ _ => rfl)) (pe_callB (c_lenK (K := K) rfl) (by rfl) T.f_len (by decide +kernel) (pa_cons (pe_ix (ixL (K := K) rfl) (pv 0) pe_int (fun _ _ => rfl)) pa_nil)) (nomark _)) (pe_ix (ixL (K := K) rfl) (pe_ix (ixL (K := K) rfl) (pv 0) pe_int (fun _ _ => rfl)) (pe_op o_sub (pe_ix (ixL (K := K) rfl) (pv 0) pe_int (fun _ _ => rfl)) pe_int) (fun _ _ => rfl)) (pe_op o_fdiv (pe_op o_pow (pe_ix (ixL (K := K) rfl) (pv 0) pe_int (fun _ _ => rfl)) pe_int) pe_int)))
      (pss_one (ps_asg (pe_ifExp (pt_cmpR o_ge (pv 2) (pe_op o_pow pe_int pe_int) (nomark _)) (pe_op o_fdiv (pv 2) (pv 1)) pe_int) (pg_sub (pv 0) pe_int set_list))))) pss_nil)
      (pss_one (ps_ret (pe_op o_mod (pv 2) (pv 1)))))), ?_⟩
    refine w_start [some (.ref d), some (.int m), none] rfl ?_
    try dsimp only [cxOf]
    obtain ⟨a, ns, i, x, c, h1, h2, h3, h4, h5⟩ := D.ex
    walk_at "wp"
    refine w_fdiv ⟨by omega, hl⟩ ?_
    walk_at "wp"
    refine newT fun p H1 np e1 s1 => ?_
    walk_at "wp"
    refine w_setL (at_same s1 h1) rfl fun H2 e2 k2 => ?_
    walk_at "wp"
    have d1 : SqS K H1 a (ns.map V.int) := h2.same s1
    have d2 : SqS K H2 a (ns.map V.int) := d1.keep k2 (at_same s1 h1)
    refine w_dec (fun hc => ?_) (fun hc => ?_)
    · walk_at "wp"
      refine newT fun p3 H3 np3 e3 s3 => ?_
      walk_at "wp"
      refine w_setL (at_same s3 e2) rfl fun H4 e4 k4 => ?_
      walk_at "wp"
      refine w_setL e4 rfl fun H5 e5 k5 => ?_
      have d3 : SqS K H3 a (ns.map V.int) := d2.same s3
      have d4 : SqS K H4 a (ns.map V.int) := d3.keep k4 (at_same s3 e2)
      have d5 : SqS K H5 a (ns.map V.int) := d4.keep k5 e4
      have d5' := d5.sql
      have hx0 : 0 ≤ (x * 48271).fmod 2147483647 := by rw [Int.fmod_eq_emod_of_nonneg _ (by omega)]; exact Int.emod_nonneg _ (by omega)
      have hx1 : (x * 48271).fmod 2147483647 < 2147483647 := by rw [Int.fmod_eq_emod_of_nonneg _ (by omega)]; exact Int.emod_lt_of_pos _ (by omega)
      generalize (x * 48271).fmod 2147483647 = y at *
      walk_at "wp"
      have fin : ∀ (z : Int) (σ : L2.St), σ = [some (.ref d), some (.int m), some (.int z)] → tSeq (tAsg (tIf (tTest (tOp rGe (tVar 2) (tOp rPow (tC (V.int 10)) (tC (V.int 18))))) (tOp rFdiv (tVar 2) (tVar 1)) (tC (V.int 0))) (gSub (tVar 0) (tC (V.int 3)) rSetL)) (tRet (tOp rMod (tVar 2) (tVar 1))) { nx := fun _ H' => Q V.non H', rt := Q } σ H5 := by
        intro z σ es
        subst es
        have go : ∀ H6 c6, H6 d = some (.lst [.ref a, .int (i + 1), .int y, .int c6]) → Keep d H5 H6 → tRet (tOp rMod (tVar 2) (tVar 1)) { nx := fun _ H' => Q V.non H', rt := Q } [some (.ref d), some (.int m), some (.int z)] H6 := by
          intro H6 c6 e6 k6
          walk_at "wp"
          rw [Int.fmod_eq_emod_of_nonneg z (by omega)]
          exact q _ H6 (Int.emod_nonneg _ (by omega)) (Int.emod_lt_of_pos _ hm) ⟨a, ns, i + 1, y, _, e6, d5.keep k6 e5, by omega, hx0, hx1⟩ ((((s1.keep k2).same s3).trans k4).trans (k5.trans k6))
        walk_at "wp"
        refine w_dec (fun _ => ?_) (fun _ => ?_)
        · walk_at "wp"
          refine w_fdiv ⟨by omega, hl⟩ ?_
          walk_at "wp"
          exact w_setL e5 rfl fun H6 e6 k6 => go H6 _ e6 k6
        · walk_at "wp"
          exact w_setL e5 rfl fun H6 e6 k6 => go H6 _ e6 k6
      refine w_dec (fun hi => ?_) (fun hi => ?_)
      · rw [List.length_map] at hi
        walk_at "wp"
        obtain ⟨z, _, ez⟩ := atI_ints (ns := ns) (z := i + 1 - 1) (by omega) (by omega)
        exact w_ixL d5' ez (fin z _ rfl)
      · repeat (first | exact fin _ _ rfl | walk_at "wp1")
    · walk_at "wp"
      rw [Int.fmod_eq_emod_of_nonneg c (by omega)]
      exact q _ H2 (Int.emod_nonneg _ (by omega)) (Int.emod_lt_of_pos _ hm) ⟨a, ns, i, x, _, e2, d2, h3, h4, h5⟩ (s1.keep k2)
theorem c_l_dice (F : Def K mg "_law_dice" s_l_dice) (T : Fre mg) : Cal P w K mg base 1 "_law_dice" ["_law_script"] (spDice K) := by
  refine cal_of F sc_l_dice b_l_dice (fun vs H Q E h => ?_) (fun cdv A outer s H vs Q E hr h => ?_)
  · obtain ⟨a, ns, rfl, _⟩ := h
    rfl
  · obtain ⟨a, ns, rfl, hS', q⟩ := h
    have hS := hS'.sql
    have po := passes_of (X := cxOf (L2N.CX P w) P w K mg base ["_law_script", "_law_mixed", "_law_cell"] "_law_dice" (defScope s_l_dice) (He.ga K "_law_dice") cdv A outer s H E) rfl
    refine ⟨_, (pss_cons (ps_set (i := 1) sc_l_dice.nd rfl (loc_of rfl) pe_int)
      (pss_cons (ps_for po rfl (pi_list (pv 0)) (pg_name (i := 2) sc_l_dice.nd rfl (loc_of rfl)) (pss_one (ps_set (i := 1) sc_l_dice.nd rfl (loc_of rfl) (pe_op o_mod (pe_op o_add (pe_op o_add (pe_op o_mul (pv 1) pe_int) (pe_op o_mul (pe_op o_mod (pv 2) pe_int) pe_int)) pe_int) pe_int))))
      (pss_one (ps_ret (pe_lst (pa_cons (pv 0) (pa_cons pe_int (pa_cons (pe_op o_mul (pv 1) (pe_callTy c_intB (by rfl) T.f_int (by decide +kernel) (pa_cons (pe_cmpR o_gt (pe_callB (c_lenK (K := K) rfl) (by rfl) T.f_len (by decide +kernel) (pa_cons (pv 0) pa_nil)) pe_int (nomark _)) pa_nil))) (pa_cons pe_int pa_nil))))))))), ?_⟩
    refine w_start [some (.ref a), none, none] rfl ?_
    try dsimp only [cxOf]
    walk_at "wp"
    refine forL hS (fun i σ H' => ∃ x y, σ = [some (.ref a), some (.int x), y] ∧ 0 ≤ x ∧ x < 2147483647 ∧ H' = H) ⟨0, none, rfl, by omega, by omega, rfl⟩ (fun i σ H' _ h => ?_) (fun i v σ H' hv h => ?_) (fun σ H' h => ?_)
    · obtain ⟨x, y, rfl, _, _, rfl⟩ := h
      exact hS
    · obtain ⟨x, y, rfl, h0, h1, rfl⟩ := h
      obtain ⟨z, rfl⟩ : ∃ z, v = V.int z := by
        rw [List.getElem?_map] at hv
        cases e : ns[i]? with
        | none => rw [e] at hv; cases hv
        | some z => rw [e] at hv; exact ⟨z, (Option.some.inj hv).symm⟩
      have hz0 : 0 ≤ z.fmod 2147483647 := by rw [Int.fmod_eq_emod_of_nonneg _ (by omega)]; exact Int.emod_nonneg _ (by omega)
      have hz1 : z.fmod 2147483647 < 2147483647 := by rw [Int.fmod_eq_emod_of_nonneg _ (by omega)]; exact Int.emod_lt_of_pos _ (by omega)
      walk_at "wp"
      refine ⟨_, _, rfl, ?_, ?_, rfl⟩
      · rw [Int.fmod_eq_emod_of_nonneg _ (by omega)]; exact Int.emod_nonneg _ (by omega)
      · rw [Int.fmod_eq_emod_of_nonneg _ (by omega)]; exact Int.emod_lt_of_pos _ (by omega)
    · obtain ⟨x, y, rfl, h0, h1, rfl⟩ := h
      walk_at "wp"
      have hb : (if decide (2 < ((ns.map V.int).length : Int)) = true then (1 : Int) else 0) = 0 ∨ (if decide (2 < ((ns.map V.int).length : Int)) = true then (1 : Int) else 0) = 1 := by
        split
        · exact .inr rfl
        · exact .inl rfl
      generalize (if decide (2 < ((ns.map V.int).length : Int)) = true then (1 : Int) else 0) = k at *
      have hk : 0 ≤ x * k ∧ x * k < 2147483647 := by
        rcases hb with rfl | rfl
        · rw [Int.mul_zero]; omega
        · rw [Int.mul_one]; omega
      refine newL fun d H1 nd e1 s1 => ?_
      exact q d H1 nd ⟨a, ns, 0, x * k, 0, e1, hS'.same s1, by omega, hk.1, hk.2⟩ s1
end
end Lw

namespace Lw
open PySem PySem.Spec PyProof.Rows L2 Fw Htx
local macro_rules | `(tactic| walk_at "cond") => `(tactic| first | assumption | (with_reducible exact cdiv_small (by omega) (by omega)) | (with_reducible exact cmul_small (by omega) (by omega)) | (with_reducible exact cpow_mk (by omega) (by omega) (by omega)) | omega)
local macro_rules | `(tactic| walk_at "ne") => `(tactic| first | assumption | exact Ne.symm (by assumption) | exact ne_of_none (by assumption) (by assumption) | exact Ne.symm (ne_of_none (by assumption) (by assumption)))
local macro_rules | `(tactic| walk_at "at") => `(tactic| first
  | assumption
  | (with_reducible exact upd_same)
  | ((with_reducible refine' at_same ?hk ?hh); (case hk => assumption); (case hh => walk_at "at"))
  | ((with_reducible refine' at_keepT ?hk ?hh ?hd); (case hk => assumption); (case hh => walk_at "at"); (case hd => walk_at "at"))
  | ((with_reducible refine' at_keep ?hk ?hh ?hn); (case hk => assumption); (case hh => walk_at "at"); (case hn => walk_at "ne")))
local macro_rules | `(tactic| walk_at "hp") => `(tactic| first
  | assumption
  | ((with_reducible refine' SqT.of ?hq); (case hq => walk_at "at")) | ((with_reducible refine' SqL.of ?hq); (case hq => walk_at "at"))
  | ((with_reducible refine' sql_same ?hk ?hh); (case hk => assumption); (case hh => walk_at "hp"))
  | ((with_reducible refine' sql_keep ?hk ?hh ?hn); (case hk => assumption); (case hh => walk_at "hp"); (case hn => walk_at "ne"))
  | ((with_reducible refine' sqt_same ?hk ?hh); (case hk => assumption); (case hh => walk_at "hp")))
local macro_rules | `(tactic| walk_at "wp1") => `(tactic| first
  | with_reducible refine w_rz ?_ | with_reducible refine w_calX ?_ | with_reducible refine w_calS ?_ | with_reducible refine w_row ?_
  | with_reducible refine w_seq ?_ | with_reducible refine w_set ?_ | with_reducible refine w_drop ?_ | with_reducible refine w_ret ?_ | with_reducible refine w_ifS ?_ | with_reducible refine w_next ?_
  | ((with_reducible refine' w_var ?hv ?_); (case hv => rfl)) | with_reducible refine w_c ?_
  | with_reducible refine w_op ?_ | with_reducible refine w_un ?_ | with_reducible refine w_cb ?_ | with_reducible refine w_cal ?_ | with_reducible refine w_cons ?_ | with_reducible refine w_nil ?_
  | with_reducible refine w_plus ?_ | with_reducible refine w_minus ?_ | with_reducible refine w_lt ?_ | with_reducible refine w_le ?_ | with_reducible refine w_gt ?_ | with_reducible refine w_ge ?_
  | with_reducible refine w_eqI ?_ | with_reducible refine w_neI ?_ | with_reducible refine w_eqB ?_ | with_reducible refine w_neB ?_ | with_reducible refine w_eqS ?_ | with_reducible refine w_neS ?_
  | with_reducible refine w_neg ?_ | with_reducible refine w_abs ?_ | with_reducible refine w_intB ?_ | with_reducible refine w_test ?_ | with_reducible refine w_tB ?_ | with_reducible refine w_bl ?_
  | with_reducible refine w_and ?_ | with_reducible refine w_or ?_ | with_reducible refine w_not ?_ | with_reducible refine w_andV ?_ | with_reducible refine w_orV ?_ | with_reducible refine w_notV ?_ | with_reducible refine w_ifE ?_
  | with_reducible refine w_nyes ?_ | with_reducible refine w_nno ?_ | with_reducible refine w_yes ?_ | with_reducible refine w_no ?_
  | ((with_reducible refine' w_ixL ?ha ?hb ?_); (case ha => walk_at "hp"); (case hb => rfl)) | ((with_reducible refine' w_ixT ?ha ?hb ?_); (case ha => walk_at "hp"); (case hb => rfl))
  | ((with_reducible refine' w_lenL ?ha ?_); (case ha => walk_at "hp")) | ((with_reducible refine' w_lenT ?ha ?_); (case ha => walk_at "hp"))
  | with_reducible refine w_min2 ?_ | with_reducible refine w_max2 ?_ | with_reducible refine w_bm ?_ | with_reducible refine w_lc ?_ | ((with_reducible refine' w_tyL ?ha ?_); (case ha => walk_at "at"))
  | with_reducible refine isi_ii ?_ | with_reducible refine isi_ib ?_ | with_reducible refine isi_bb ?_ | with_reducible refine isi_ss ?_
  | ((with_reducible refine' isi_tt ?ha ?_); (case ha => walk_at "at")) | ((with_reducible refine' isi_ll ?ha ?_); (case ha => walk_at "at"))
  | with_reducible refine w_par ?_ | with_reducible refine w_par2 ?_ | with_reducible refine w_for ?_ | with_reducible refine w_iL ?_ | with_reducible refine w_iT ?_ | with_reducible refine w_iR1 ?_ | with_reducible refine w_iR2 ?_
  | with_reducible refine w_tup ?_ | with_reducible refine w_lst ?_
  | with_reducible refine w_asg ?_ | with_reducible refine w_gname ?_ | with_reducible refine w_gcons ?_ | with_reducible refine w_gnil ?_ | with_reducible refine w_gsub ?_
  | ((with_reducible refine' w_gtup ?ha ?hb ?_); (case ha => walk_at "hp"); (case hb => rfl))
  | ((with_reducible refine' w_fdiv ?hc ?_); (case hc => walk_at "cond")) | ((with_reducible refine' w_mul ?hc ?_); (case hc => walk_at "cond"))
  | ((with_reducible refine' w_mod ?hc ?_); (case hc => walk_at "cond")) | ((with_reducible refine' w_pow ?hc ?_); (case hc => walk_at "cond")))
local macro_rules | `(tactic| walk_at "wp") => `(tactic| repeat walk_at "wp1")
section
variable {P : Program} {w : World} {K : PySem.W.Frag} {mg : Str → Option Value} {base : Heap}
/-! ### SlopeError.__init__ -/
def IniD (K : PySem.W.Frag) : Prop := ∃ fd, FunD K "__init__" "SlopeError.__init__" (defArgs s_SlopeError___init__) (defBody s_SlopeError___init__) (defScope s_SlopeError___init__) [.int 0] [] (He.ma K (He.ga K "SlopeError") "__init__") fd
theorem ini_fn {fd : FuncData} (F : FunD K "__init__" "SlopeError.__init__" (defArgs s_SlopeError___init__) (defBody s_SlopeError___init__) (defScope s_SlopeError___init__) [.int 0] [] (He.ma K (He.ga K "SlopeError") "__init__") fd) (T : Fre mg) :
    FnOk P w K mg base (L2N.CX P w) 1 (He.ma K (He.ga K "SlopeError") "__init__") fd ["self", "words", "row"] (spInit K) := by
  refine F.ok sc_SlopeError___init__ (fun vs H Q E h => ?_) (fun cdv A outer s H vs Q E hr h => ?_)
  · obtain ⟨_, _, _, _, rfl, _⟩ := h
    rfl
  · obtain ⟨a, C, wv, r, rfl, T1, hrow, ha, q⟩ := h
    refine ⟨_, pss_cons (ps_expr (pe_veinit (by rfl) T.f_ValueError (by first | rfl | kernel_rfl) (pa_cons (pv 0) (pa_cons (pv 1) pa_nil)))) (pss_one (ps_ost (pv 0) (pv 2))), ?_⟩
    refine w_start [some (.ref a), some wv, some r] rfl ?_
    try dsimp only [cxOf]
    refine ⟨.ref a, rfl, wv, rfl, a, C, [wv], rfl, Nat.le_of_ble_eq_true rfl, T1, ha, ?_⟩
    exact ⟨r, rfl, .ref a, rfl, a, C, rfl, T1, hrow, .inl ⟨ha, fun d nd nda => q d nd nda⟩⟩
theorem ini1_of (F : IniD K) (T : Fre mg) (ty : PySem.W.typeIn K (.ref (He.ma K (He.ga K "SlopeError") "__init__")) = some (.type "function")) : IniOk P w K mg base [.int 0] := by
  obtain ⟨fd, F⟩ := F
  obtain ⟨ds, h1, h2⟩ := F.binds1 (ps := ["self", "words", "row"]) 2 0 (by simp) rfl fun TT kV doc pm an cdv ct us its hu hi => by
    match us, hu, its, hi with
    | [_, _], _, [_], _ => exact ⟨_, rfl, rfl⟩
  exact ⟨⟨fd, ds, ini_fn F T, h1, h2⟩, ty⟩
theorem ini2_of (F : IniD K) (T : Fre mg) (ty : PySem.W.typeIn K (.ref (He.ma K (He.ga K "SlopeError") "__init__")) = some (.type "function")) : IniOk P w K mg base [] := by
  obtain ⟨fd, F⟩ := F
  obtain ⟨ds, h1, h2⟩ := F.binds1 (ps := ["self", "words", "row"]) 3 1 (by simp) rfl fun TT kV doc pm an cdv ct us its hu hi => by
    match us, hu, its, hi with
    | [_, _, _], _, [_], _ => exact ⟨_, rfl, rfl⟩
  exact ⟨⟨fd, ds, ini_fn F T, h1, h2⟩, ty⟩
/-! ### the ten refusals, and the law's looks at a caught one -/
def C10 : List Str := ["BadText", "Unknown", "WrongSort", "WrongCount", "OutOfRow", "ByNought", "AtTurn", "TooGreat", "TooLong", "BadPoint"]
def W10 : List Str := ["text", "unknown", "sort", "count", "out", "nought", "turn", "great", "long", "point"]
/-- all of them: each is one, none is another -/
structure Refus (K : PySem.W.Frag) (mg : Str → Option Value) : Prop where
  z : ∀ i, i < 10 → Exk K mg (C10.getD i "")
  kit : ∀ i j, i < 10 → j < 10 → PySem.W.kitOne K (.ref (He.ga K (C10.getD i ""))) (.ref (He.ga K (C10.getD j ""))) = some (i == j)
  sl : mg "SlopeError" = some (.ref (He.ga K "SlopeError"))
def refB (K : PySem.W.Frag) : Bool := ((List.range 10).all fun i => exkB K (C10.getD i "")) && (((List.range 10).all fun i => (List.range 10).all fun j => decide (PySem.W.kitOne K (.ref (He.ga K (C10.getD i ""))) (.ref (He.ga K (C10.getD j ""))) = some (i == j))) &&
  (decide (PySem.W.typeIn K (.ref (He.ma K (He.ga K "SlopeError") "__init__")) = some (.type "function")) && decide (PySem.W.nsIn K mainGlobals "SlopeError" = some (some (.ref (He.ga K "SlopeError"))))))
theorem refB_ok {h : Heap} (X : K.In h) (G : h.Ns mainGlobals mg) (q : refB K = true) : Refus K mg ∧ PySem.W.typeIn K (.ref (He.ma K (He.ga K "SlopeError") "__init__")) = some (.type "function") := by
  unfold refB at q
  obtain ⟨q1, q⟩ := Bool.and_eq_true_iff.mp q
  obtain ⟨q2, q⟩ := Bool.and_eq_true_iff.mp q
  obtain ⟨q3, q4⟩ := Bool.and_eq_true_iff.mp q
  refine ⟨⟨fun i hi => exkB_ok X G (List.all_eq_true.mp q1 i (List.mem_range.mpr hi)), fun i j hi hj => ?_, PySem.W.mg_of X G (of_decide_eq_true q4)⟩, of_decide_eq_true q3⟩
  exact of_decide_eq_true (List.all_eq_true.mp (List.all_eq_true.mp q2 i (List.mem_range.mpr hi)) j (List.mem_range.mpr hj))
/-- the caught one is the i-th, its row is r -/
def spIs (K : PySem.W.Frag) : SpX := fun a cls d vs H Q _ => ∃ (i : Nat) (dd : Addr) (fs : List (Str × V)), i < 10 ∧ cls = .ref (He.ga K (C10.getD i "")) ∧ d = some dd ∧ H dd = some (.xd fs) ∧ vs = [.ref a, .str (W10.getD i "")] ∧ ∀ H', Same H H' → Q (.bl true) H'
theorem x_l_is (F : Def K mg "_law_is" s_l_is) (T : Fre mg) (R : Refus K mg) : CalX P w K mg base 1 "_law_is" ["_law_e", "_law_word"] (spIs K) := by
  refine calX_of F sc_l_is b_l_is (fun a cls d vs H Q E h => ?_) (fun cdv A outer s H vs Q E a oe cls d hot hz hr h => ?_)
  · obtain ⟨_, _, _, _, _, _, _, rfl, _⟩ := h
    rfl
  · obtain ⟨i, dd, fs, hi, rfl, rfl, hx, rfl, q⟩ := h
    have ZE : ExcC K (He.ga K (C10.getD i "")) := (R.z i hi).e
    have Z_BadText : Exk K mg "BadText" := R.z 0 (by decide)
    have Z_Unknown : Exk K mg "Unknown" := R.z 1 (by decide)
    have Z_WrongSort : Exk K mg "WrongSort" := R.z 2 (by decide)
    have Z_WrongCount : Exk K mg "WrongCount" := R.z 3 (by decide)
    have Z_OutOfRow : Exk K mg "OutOfRow" := R.z 4 (by decide)
    have Z_ByNought : Exk K mg "ByNought" := R.z 5 (by decide)
    have Z_AtTurn : Exk K mg "AtTurn" := R.z 6 (by decide)
    have Z_TooGreat : Exk K mg "TooGreat" := R.z 7 (by decide)
    have Z_TooLong : Exk K mg "TooLong" := R.z 8 (by decide)
    have Z_BadPoint : Exk K mg "BadPoint" := R.z 9 (by decide)
    have hf : ∃ vs, oe.data = .fields vs := by
      obtain ⟨_, v, hv, _⟩ := hot
      exact ⟨v, hv⟩
    have hp : (a, oe) ∈ (L2H.cxH (L2N.CX P w) P w K mg base ["_law_e", "_law_word", "_law_kinds", "_law_words", "_law_one"] "_law_is" (defScope s_l_is) (He.ga K "_law_is") cdv A outer s H E (a, oe)).pn := List.mem_singleton.mpr rfl
    have hotc : L2H.HotC (L2H.cxH (L2N.CX P w) P w K mg base ["_law_e", "_law_word", "_law_kinds", "_law_words", "_law_one"] "_law_is" (defScope s_l_is) (He.ga K "_law_is") cdv A outer s H E (a, oe)) := ⟨(a, oe), hot, hp⟩
    have hu64 : (L2H.cxH (L2N.CX P w) P w K mg base ["_law_e", "_law_word", "_law_kinds", "_law_words", "_law_one"] "_law_is" (defScope s_l_is) (He.ga K "_law_is") cdv A outer s H E (a, oe)).A.units + 64 < cLine := by
      have := hr.un
      show (A.deeper _).units + 64 < cLine
      omega
    refine ⟨_, (pss_cons (ps_set (i := 2) sc_l_is.nd rfl (loc_of rfl) (pe_lst (pa_cons (pe_callB (isP (K := K) rfl ZE hz hf hp) (by rfl) T.f_isinstance (by decide +kernel) (pa_cons (pv 0) (pa_cons (pe_glob (v := .ref (He.ga K "BadText")) (by rfl) Z_BadText.g rfl) pa_nil))) (pa_cons (pe_callB (isP (K := K) rfl ZE hz hf hp) (by rfl) T.f_isinstance (by decide +kernel) (pa_cons (pv 0) (pa_cons (pe_glob (v := .ref (He.ga K "Unknown")) (by rfl) Z_Unknown.g rfl) pa_nil))) (pa_cons (pe_callB (isP (K := K) rfl ZE hz hf hp) (by rfl) T.f_isinstance (by decide +kernel) (pa_cons (pv 0) (pa_cons (pe_glob (v := .ref (He.ga K "WrongSort")) (by rfl) Z_WrongSort.g rfl) pa_nil))) (pa_cons (pe_callB (isP (K := K) rfl ZE hz hf hp) (by rfl) T.f_isinstance (by decide +kernel) (pa_cons (pv 0) (pa_cons (pe_glob (v := .ref (He.ga K "WrongCount")) (by rfl) Z_WrongCount.g rfl) pa_nil))) pa_nil))))))
      (pss_cons (ps_set (i := 2) sc_l_is.nd rfl (loc_of rfl) (pe_op o_catL (pv 2) (pe_lst (pa_cons (pe_callB (isP (K := K) rfl ZE hz hf hp) (by rfl) T.f_isinstance (by decide +kernel) (pa_cons (pv 0) (pa_cons (pe_glob (v := .ref (He.ga K "OutOfRow")) (by rfl) Z_OutOfRow.g rfl) pa_nil))) (pa_cons (pe_callB (isP (K := K) rfl ZE hz hf hp) (by rfl) T.f_isinstance (by decide +kernel) (pa_cons (pv 0) (pa_cons (pe_glob (v := .ref (He.ga K "ByNought")) (by rfl) Z_ByNought.g rfl) pa_nil))) (pa_cons (pe_callB (isP (K := K) rfl ZE hz hf hp) (by rfl) T.f_isinstance (by decide +kernel) (pa_cons (pv 0) (pa_cons (pe_glob (v := .ref (He.ga K "AtTurn")) (by rfl) Z_AtTurn.g rfl) pa_nil))) (pa_cons (pe_callB (isP (K := K) rfl ZE hz hf hp) (by rfl) T.f_isinstance (by decide +kernel) (pa_cons (pv 0) (pa_cons (pe_glob (v := .ref (He.ga K "TooGreat")) (by rfl) Z_TooGreat.g rfl) pa_nil))) pa_nil)))))))
      (pss_cons (ps_set (i := 2) sc_l_is.nd rfl (loc_of rfl) (pe_op o_catL (pv 2) (pe_lst (pa_cons (pe_callB (isP (K := K) rfl ZE hz hf hp) (by rfl) T.f_isinstance (by decide +kernel) (pa_cons (pv 0) (pa_cons (pe_glob (v := .ref (He.ga K "TooLong")) (by rfl) Z_TooLong.g rfl) pa_nil))) (pa_cons (pe_callB (isP (K := K) rfl ZE hz hf hp) (by rfl) T.f_isinstance (by decide +kernel) (pa_cons (pv 0) (pa_cons (pe_glob (v := .ref (He.ga K "BadPoint")) (by rfl) Z_BadPoint.g rfl) pa_nil))) pa_nil)))))
      (pss_cons (ps_set (i := 3) sc_l_is.nd rfl (loc_of rfl) (pe_lst (pa_cons pe_str (pa_cons pe_str (pa_cons pe_str (pa_cons pe_str (pa_cons pe_str (pa_cons pe_str (pa_cons pe_str (pa_cons pe_str (pa_cons pe_str (pa_cons pe_str pa_nil))))))))))))
      (pss_one (ps_ret (pe_and (pe_callB (isP (K := K) rfl ZE hz hf hp) (by rfl) T.f_isinstance (by decide +kernel) (pa_cons (pv 0) (pa_cons (pe_bltn (v := .ty "ValueError") (by rfl) T.f_ValueError (by decide +kernel) rfl) pa_nil))) (pe_one (pe_cmpR (op_eqD hu64) (pv 2) (pe_lcH (own := [("_law_one", 4)]) (g := gName 4) hotc sc_l_is.nd (pv 3) (blkOk_by (own := [("_law_one", 4)]) (N := ["_law_e", "_law_word", "_law_kinds", "_law_words", "_law_one"]) (sc := defScope s_l_is) (by decide +kernel)) (fun _ _ _ _ _ => pg_name (i := 4) sc_l_is.nd rfl (Or.inl rfl)) (fun _ _ _ _ _ => pts_nil) (fun _ _ _ _ _ => (pe_cmpR op_eq (pv 1) (pv 4) (nomark _)))) (nomark _)))))))))), ?_⟩
    refine w_start [some (.ref a), some (.str (W10.getD i "")), none, none, none] rfl ?_
    try dsimp only [L2H.cxH, cxOf]
    walk_at "wp"
    refine w_isP (R.kit i 0 hi (by decide)) hx ?_
    walk_at "wp"
    refine w_isP (R.kit i 1 hi (by decide)) hx ?_
    walk_at "wp"
    refine w_isP (R.kit i 2 hi (by decide)) hx ?_
    walk_at "wp"
    refine w_isP (R.kit i 3 hi (by decide)) hx ?_
    walk_at "wp"
    refine newL fun l1 H1 n1 e1 s1 => ?_
    have hx1 := s1 _ _ hx
    walk_at "wp"
    refine w_isP (R.kit i 4 hi (by decide)) hx1 ?_
    walk_at "wp"
    refine w_isP (R.kit i 5 hi (by decide)) hx1 ?_
    walk_at "wp"
    refine w_isP (R.kit i 6 hi (by decide)) hx1 ?_
    walk_at "wp"
    refine w_isP (R.kit i 7 hi (by decide)) hx1 ?_
    walk_at "wp"
    refine newL fun l2 H2 n2 e2 s2 => ?_
    refine w_catL (s2 _ _ e1) e2 (Nat.le_of_ble_eq_true rfl) fun l3 H3 n3 e3 s3 => ?_
    have hx3 := s3 _ _ (s2 _ _ hx1)
    walk_at "wp"
    refine w_isP (R.kit i 8 hi (by decide)) hx3 ?_
    walk_at "wp"
    refine w_isP (R.kit i 9 hi (by decide)) hx3 ?_
    walk_at "wp"
    refine newL fun l4 H4 n4 e4 s4 => ?_
    refine w_catL (s4 _ _ e3) e4 (Nat.le_of_ble_eq_true rfl) fun l5 H5 n5 e5 s5 => ?_
    walk_at "wp"
    refine newL fun l6 H6 n6 e6 s6 => ?_
    have s05 : Same H H5 := (s1.trans s2).trans ((s3.trans s4).trans s5)
    have hx6 := s6 _ _ (s5 _ _ (s4 _ _ hx3))
    walk_at "wp"
    refine w_isPT (R.z i hi).val hx6 ?_
    walk_at "wp"
    refine lcL (fun x => V.bl (decide (V.str (W10.getD i "") = x))) (SqL.of e6) (by decide) (fun x H7 Q' hxm sH hq => ?_) (fun x => rfl) (fun D H7 nD eD sD => ?_)
    · obtain ⟨z, rfl⟩ : ∃ z, x = V.str z := by
        have : ∀ y ∈ ([V.str "text", V.str "unknown", V.str "sort", V.str "count", V.str "out", V.str "nought", V.str "turn", V.str "great", V.str "long", V.str "point"] : List V), ∃ z, y = V.str z := by
          intro y hy
          simp only [List.mem_cons, List.not_mem_nil, or_false] at hy
          rcases hy with h | h | h | h | h | h | h | h | h | h <;> exact ⟨_, h⟩
        exact this x hxm
      walk_at "wp"
      have ee : decide (W10.getD i "" = z) = decide (V.str (W10.getD i "") = V.str z) := by simp
      rw [ee]
      exact hq
    · have s07 : Same H H7 := s05.trans (s6.trans sD)
      have hin : i = 0 ∨ i = 1 ∨ i = 2 ∨ i = 3 ∨ i = 4 ∨ i = 5 ∨ i = 6 ∨ i = 7 ∨ i = 8 ∨ i = 9 := by omega
      have e5' := sD _ _ (s6 _ _ e5)
      rcases hin with rfl | rfl | rfl | rfl | rfl | rfl | rfl | rfl | rfl | rfl
      all_goals
        refine ⟨_, _, .lst (SqL.of e5') (.cons (.bl _) (.cons (.bl _) (.cons (.bl _) (.cons (.bl _) (.cons (.bl _) (.cons (.bl _) (.cons (.bl _) (.cons (.bl _) (.cons (.bl _) (.cons (.bl _) .nil)))))))))), .lst (SqL.of eD) (.cons (.bl _) (.cons (.bl _) (.cons (.bl _) (.cons (.bl _) (.cons (.bl _) (.cons (.bl _) (.cons (.bl _) (.cons (.bl _) (.cons (.bl _) (.cons (.bl _) .nil)))))))))), rfl, rfl, ?_⟩
        exact q H7 s07
def spWholeX : SpX := fun _ _ _ vs H Q _ => ∃ i : Int, vs = [.int i] ∧ Q (.bl true) H
theorem x_l_whole (F : Def K mg "_law_whole" s_l_whole) (T : Fre mg) : CalX P w K mg base 1 "_law_whole" ["_law_found"] spWholeX := by
  refine calX_of F sc_l_whole b_l_whole (fun a cls d vs H Q E h => ?_) (fun cdv A outer s H vs Q E a oe cls d hot hz hr h => ?_)
  · obtain ⟨_, rfl, _⟩ := h
    rfl
  · obtain ⟨i, rfl, q⟩ := h
    refine ⟨_, (pss_one (ps_ret (pe_and (pe_callB (c_isiK (K := K) rfl) (by rfl) T.f_isinstance (by decide +kernel) (pa_cons (pv 0) (pa_cons (pe_bltn (v := .ty "int") (by rfl) T.f_int (by decide +kernel) rfl) pa_nil))) (pe_one (pe_not (pe_callB (c_isiK (K := K) rfl) (by rfl) T.f_isinstance (by decide +kernel) (pa_cons (pv 0) (pa_cons (pe_bltn (v := .ty "bool") (by rfl) T.f_bool (by decide +kernel) rfl) pa_nil)))))))), ?_⟩
    refine w_start [some (.int i)] rfl ?_
    try dsimp only [L2H.cxH, cxOf]
    walk_at "wp"
    exact q
def spWhole : Sp := fun vs H Q _ => ∃ i : Int, vs = [.int i] ∧ Q (.bl true) H
theorem c_l_whole (F : Def K mg "_law_whole" s_l_whole) (T : Fre mg) : Cal P w K mg base 1 "_law_whole" ["_law_found"] spWhole := by
  refine cal_of F sc_l_whole b_l_whole (fun vs H Q E h => ?_) (fun cdv A outer s H vs Q E hr h => ?_)
  · obtain ⟨_, rfl, _⟩ := h
    rfl
  · obtain ⟨i, rfl, q⟩ := h
    refine ⟨_, (pss_one (ps_ret (pe_and (pe_callB (c_isiK (K := K) rfl) (by rfl) T.f_isinstance (by decide +kernel) (pa_cons (pv 0) (pa_cons (pe_bltn (v := .ty "int") (by rfl) T.f_int (by decide +kernel) rfl) pa_nil))) (pe_one (pe_not (pe_callB (c_isiK (K := K) rfl) (by rfl) T.f_isinstance (by decide +kernel) (pa_cons (pv 0) (pa_cons (pe_bltn (v := .ty "bool") (by rfl) T.f_bool (by decide +kernel) rfl) pa_nil)))))))), ?_⟩
    refine w_start [some (.int i)] rfl ?_
    try dsimp only [cxOf]
    walk_at "wp"
    exact q
/-! ### made -/
theorem absI (t : Int) : (if t < 0 then -t else t) = (t.natAbs : Int) := by split <;> omega
theorem log2_le {a b : Nat} (h : a ≤ b) {n : Nat} (hb : b.log2 < n) : a.log2 < n := by
  by_cases h0 : a = 0
  · subst h0
    exact Nat.lt_of_le_of_lt (Nat.zero_le _) hb
  · have h1 : a.log2 ≤ b.log2 := by
      rw [Nat.le_log2 (by omega)]
      exact Nat.le_trans (Nat.log2_self_le h0) h
    omega
theorem lg {x : Int} {n m : Nat} (h : x.natAbs < 2 ^ n) (h0 : 0 < n) (hm : n ≤ m) : x.natAbs.log2 < m := Nat.lt_of_lt_of_le (PySem.Flt.log2_lt_of h0 h) hm
theorem mulw {x y : Int} {n m : Nat} (hx : x.natAbs < 2 ^ n) (hy : y.natAbs < 2 ^ m) (h0 : 0 < n) (h1 : 0 < m) (h : n + m ≤ 1000000) : CMulW x y := wide_mul hx hy h0 h1 h
def spMade (K : PySem.W.Frag) : Sp := fun vs H Q E => ∃ t b : Int, vs = [.int t, .int b] ∧ b.natAbs.log2 < 9000 ∧
  (b ≠ 0 → ∀ p H', H p = none → H' p = some (.tup [.int (Mth.cT t b), .int (Mth.cB t b)]) → Same H H' → Q (.ref p) H') ∧
  (b = 0 → ∀ d H', H d = none → H' d = some (.xd [("row", .int 0)]) → Same H H' → E (.ref (He.ga K "ByNought")) (some d) H')
theorem c_made (F : Def K mg "made" s_made) (T : Fre mg) (Z_ByNought : Exk K mg "ByNought") (ini1 : IniOk P w K mg base [.int 0]) : Cal P w K mg base 3 "made" ["top", "bottom"] (spMade K) := by
  refine cal_of F sc_made b_made (fun vs H Q E h => ?_) (fun cdv A outer s H vs Q E hr h => ?_)
  · obtain ⟨t, b, rfl, _⟩ := h
    rfl
  · obtain ⟨t, b, rfl, hl, q, qe⟩ := h
    have po := passes_of (X := cxOf (L2N.CX P w) P w K mg base ["top", "bottom", "one", "two", "rest"] "made" (defScope s_made) (He.ga K "made") cdv A outer s H E) rfl
    have tk := L2N.takes_of (X := cxOf (L2N.CX P w) P w K mg base ["top", "bottom", "one", "two", "rest"] "made" (defScope s_made) (He.ga K "made") cdv A outer s H E) (E := E) rfl rfl rfl rfl
    refine ⟨_, (pss_cons (ps_if (pt_cmpR op_eq (pv 1) pe_int (nomark _)) (pss_one (ps_rz (dv := [.int 0]) Z_ByNought ini1 rfl hr (by omega) tk (pa_cons pe_str pa_nil))) pss_nil)
      (pss_cons (ps_set (i := 2) sc_made.nd rfl (loc_of rfl) (pe_callB c_abs (by rfl) T.f_abs (by decide +kernel) (pa_cons (pv 0) pa_nil)))
      (pss_cons (ps_set (i := 3) sc_made.nd rfl (loc_of rfl) (pe_callB c_abs (by rfl) T.f_abs (by decide +kernel) (pa_cons (pv 1) pa_nil)))
      (pss_cons (ps_while po (pt_cmpR o_gt (pv 3) pe_int (nomark _)) (pss_cons (ps_set (i := 4) sc_made.nd rfl (loc_of rfl) (pe_op o_mod (pv 2) (pv 3)))
      (pss_cons (ps_set (i := 2) sc_made.nd rfl (loc_of rfl) (pv 3))
      (pss_one (ps_set (i := 3) sc_made.nd rfl (loc_of rfl) (pv 4))))))
      (pss_cons (ps_if (pt_cmpR o_lt (pv 1) pe_int (nomark _)) (pss_one (ps_set (i := 2) sc_made.nd rfl (loc_of rfl) (pe_un u_neg (pv 2)))) pss_nil)
      (pss_one (ps_ret (pe_tup (pa_cons (pe_op o_fdiv (pv 0) (pv 2)) (pa_cons (pe_op o_fdiv (pv 1) (pv 2)) pa_nil)))))))))), ?_⟩
    refine w_start [some (.int t), some (.int b), none, none, none] rfl ?_
    try dsimp only [cxOf]
    walk_at "wp"
    refine w_dec (fun h0 => ?_) (fun hb => ?_)
    · walk_at "wp"
      exact rzL Z_ByNought _ _ rfl fun d H2 nd ed sd => qe h0 d H2 nd ed sd
    have q := q hb
    walk_at "wp"
    rw [absI, absI]
    refine w_while (fun m σ H' => ∃ (x y : Int) (z : Option V), σ = [some (.int t), some (.int b), some (.int x), some (.int y), z] ∧ 0 ≤ x ∧ 0 ≤ y ∧ m = y.natAbs ∧ Nat.gcd x.natAbs y.natAbs = Nat.gcd t.natAbs b.natAbs ∧ H' = H) b.natAbs ⟨_, _, none, rfl, by omega, by omega, by omega, by simp, rfl⟩ fun m σ H' h => ?_
    obtain ⟨x, y, z, rfl, hx, hy, rfl, hg, rfl⟩ := h
    walk_at "wp"
    refine w_dec (fun h0 => w_turn ?_) (fun h0 => ?_)
    · walk_at "wp"
      obtain ⟨g1, g2, g3⟩ := Mth.gcd_step hx h0
      exact ⟨_, by omega, _, _, _, rfl, by omega, g1, rfl, g3.trans hg, rfl⟩
    · have hy0 : y = 0 := by omega
      subst hy0
      have ex : (x.natAbs : Nat) = Nat.gcd t.natAbs b.natAbs := by rw [← hg]; simp
      have hs : (if b < 0 then -x else x) = Mth.sg t b := by
        unfold Mth.sg
        split <;> omega
      have hne := Mth.sg_ne (t := t) hb
      have hlog : (Mth.sg t b).natAbs.log2 < 9000 := log2_le (Mth.sg_le hb) hl
      walk_at "wp"
      refine w_dec (fun hb0 => ?_) (fun hb0 => ?_)
      · rw [if_pos hb0] at hs
        walk_at "wp"
        rw [hs]
        refine w_fdiv ⟨hne, hlog⟩ ?_
        walk_at "wp"
        refine w_fdiv ⟨hne, hlog⟩ ?_
        walk_at "wp"
        exact newT fun p H1 np e1 s1 => q p H1 np e1 s1
      · rw [if_neg hb0] at hs
        subst hs
        walk_at "wp"
        refine w_fdiv ⟨hne, hlog⟩ ?_
        walk_at "wp"
        refine w_fdiv ⟨hne, hlog⟩ ?_
        walk_at "wp"
        exact newT fun p H1 np e1 s1 => q p H1 np e1 s1
end
end Lw

namespace Lw
open PySem PySem.Spec PyProof.Rows L2 Fw Htx
local macro_rules | `(tactic| walk_at "cond") => `(tactic| first | assumption | (with_reducible exact cdiv_small (by omega) (by omega)) | (with_reducible exact cmul_small (by omega) (by omega)) | (with_reducible exact cpow_mk (by omega) (by omega) (by omega)) | omega)
local macro_rules | `(tactic| walk_at "ne") => `(tactic| first | assumption | exact Ne.symm (by assumption) | exact ne_of_none (by assumption) (by assumption) | exact Ne.symm (ne_of_none (by assumption) (by assumption)))
local macro_rules | `(tactic| walk_at "at") => `(tactic| first
  | assumption
  | (with_reducible exact upd_same)
  | ((with_reducible refine' at_same ?hk ?hh); (case hk => assumption); (case hh => walk_at "at"))
  | ((with_reducible refine' at_keepT ?hk ?hh ?hd); (case hk => assumption); (case hh => walk_at "at"); (case hd => walk_at "at"))
  | ((with_reducible refine' at_keep ?hk ?hh ?hn); (case hk => assumption); (case hh => walk_at "at"); (case hn => walk_at "ne")))
local macro_rules | `(tactic| walk_at "hp") => `(tactic| first
  | assumption
  | ((with_reducible refine' SqT.of ?hq); (case hq => walk_at "at")) | ((with_reducible refine' SqL.of ?hq); (case hq => walk_at "at"))
  | ((with_reducible refine' sql_same ?hk ?hh); (case hk => assumption); (case hh => walk_at "hp"))
  | ((with_reducible refine' sql_keep ?hk ?hh ?hn); (case hk => assumption); (case hh => walk_at "hp"); (case hn => walk_at "ne"))
  | ((with_reducible refine' sqt_same ?hk ?hh); (case hk => assumption); (case hh => walk_at "hp")))
local macro_rules | `(tactic| walk_at "wp1") => `(tactic| first
  | with_reducible refine w_rz ?_ | with_reducible refine w_calX ?_ | with_reducible refine w_calS ?_ | with_reducible refine w_row ?_
  | with_reducible refine w_seq ?_ | with_reducible refine w_set ?_ | with_reducible refine w_drop ?_ | with_reducible refine w_ret ?_ | with_reducible refine w_ifS ?_ | with_reducible refine w_next ?_
  | ((with_reducible refine' w_var ?hv ?_); (case hv => rfl)) | with_reducible refine w_c ?_
  | with_reducible refine w_op ?_ | with_reducible refine w_un ?_ | with_reducible refine w_cb ?_ | with_reducible refine w_cal ?_ | with_reducible refine w_cons ?_ | with_reducible refine w_nil ?_
  | with_reducible refine w_plus ?_ | with_reducible refine w_minus ?_ | with_reducible refine w_lt ?_ | with_reducible refine w_le ?_ | with_reducible refine w_gt ?_ | with_reducible refine w_ge ?_
  | with_reducible refine w_eqI ?_ | with_reducible refine w_neI ?_ | with_reducible refine w_eqB ?_ | with_reducible refine w_neB ?_ | with_reducible refine w_eqS ?_ | with_reducible refine w_neS ?_
  | with_reducible refine w_neg ?_ | with_reducible refine w_abs ?_ | with_reducible refine w_intB ?_ | with_reducible refine w_test ?_ | with_reducible refine w_tB ?_ | with_reducible refine w_bl ?_
  | with_reducible refine w_and ?_ | with_reducible refine w_or ?_ | with_reducible refine w_not ?_ | with_reducible refine w_andV ?_ | with_reducible refine w_orV ?_ | with_reducible refine w_notV ?_ | with_reducible refine w_ifE ?_
  | with_reducible refine w_nyes ?_ | with_reducible refine w_nno ?_ | with_reducible refine w_yes ?_ | with_reducible refine w_no ?_
  | ((with_reducible refine' w_ixL ?ha ?hb ?_); (case ha => walk_at "hp"); (case hb => rfl)) | ((with_reducible refine' w_ixT ?ha ?hb ?_); (case ha => walk_at "hp"); (case hb => rfl))
  | ((with_reducible refine' w_lenL ?ha ?_); (case ha => walk_at "hp")) | ((with_reducible refine' w_lenT ?ha ?_); (case ha => walk_at "hp"))
  | with_reducible refine w_min2 ?_ | with_reducible refine w_max2 ?_ | with_reducible refine w_bm ?_ | with_reducible refine w_lc ?_ | ((with_reducible refine' w_tyL ?ha ?_); (case ha => walk_at "at"))
  | with_reducible refine isi_ii ?_ | with_reducible refine isi_ib ?_ | with_reducible refine isi_bb ?_ | with_reducible refine isi_ss ?_
  | ((with_reducible refine' isi_tt ?ha ?_); (case ha => walk_at "at")) | ((with_reducible refine' isi_ll ?ha ?_); (case ha => walk_at "at"))
  | with_reducible refine w_par ?_ | with_reducible refine w_par2 ?_ | with_reducible refine w_for ?_ | with_reducible refine w_iL ?_ | with_reducible refine w_iT ?_ | with_reducible refine w_iR1 ?_ | with_reducible refine w_iR2 ?_
  | with_reducible refine w_tup ?_ | with_reducible refine w_lst ?_
  | with_reducible refine w_asg ?_ | with_reducible refine w_gname ?_ | with_reducible refine w_gcons ?_ | with_reducible refine w_gnil ?_ | with_reducible refine w_gsub ?_
  | ((with_reducible refine' w_gtup ?ha ?hb ?_); (case ha => walk_at "hp"); (case hb => rfl))
  | ((with_reducible refine' w_fdiv ?hc ?_); (case hc => walk_at "cond")) | ((with_reducible refine' w_mul ?hc ?_); (case hc => walk_at "cond"))
  | ((with_reducible refine' w_mod ?hc ?_); (case hc => walk_at "cond")) | ((with_reducible refine' w_pow ?hc ?_); (case hc => walk_at "cond")))
local macro_rules | `(tactic| walk_at "wp") => `(tactic| repeat walk_at "wp1")
section
variable {P : Program} {w : World} {K : PySem.W.Frag} {mg : Str → Option Value} {base : Heap}
/-! ### _law_cut -/
def spCut : Sp := fun vs H Q _ => ∃ t b : Int, vs = [.int t, .int b] ∧ b ≠ 0 ∧ b.natAbs.log2 < 9000 ∧ ∀ p H', H p = none → H' p = some (.tup [.int (Mth.cT t b), .int (Mth.cB t b)]) → Same H H' → Q (.ref p) H'
theorem c_l_cut (F : Def K mg "_law_cut" s_l_cut) (T : Fre mg) : Cal P w K mg base 1 "_law_cut" ["_law_top", "_law_bottom"] spCut := by
  refine cal_of F sc_l_cut b_l_cut (fun vs H Q E h => ?_) (fun cdv A outer s H vs Q E hr h => ?_)
  · obtain ⟨t, b, rfl, _⟩ := h
    rfl
  · obtain ⟨t, b, rfl, hb, hl, q⟩ := h
    have po := passes_of (X := cxOf (L2N.CX P w) P w K mg base ["_law_top", "_law_bottom", "_law_one", "_law_two", "_law_rest"] "_law_cut" (defScope s_l_cut) (He.ga K "_law_cut") cdv A outer s H E) rfl
    refine ⟨_, (pss_cons (ps_set (i := 2) sc_l_cut.nd rfl (loc_of rfl) (pe_callB c_abs (by rfl) T.f_abs (by decide +kernel) (pa_cons (pv 0) pa_nil)))
      (pss_cons (ps_set (i := 3) sc_l_cut.nd rfl (loc_of rfl) (pe_callB c_abs (by rfl) T.f_abs (by decide +kernel) (pa_cons (pv 1) pa_nil)))
      (pss_cons (ps_while po (pt_cmpR o_gt (pv 3) pe_int (nomark _)) (pss_cons (ps_set (i := 4) sc_l_cut.nd rfl (loc_of rfl) (pe_op o_mod (pv 2) (pv 3)))
      (pss_cons (ps_set (i := 2) sc_l_cut.nd rfl (loc_of rfl) (pv 3))
      (pss_one (ps_set (i := 3) sc_l_cut.nd rfl (loc_of rfl) (pv 4))))))
      (pss_cons (ps_if (pt_cmpR o_lt (pv 1) pe_int (nomark _)) (pss_one (ps_set (i := 2) sc_l_cut.nd rfl (loc_of rfl) (pe_op o_sub pe_int (pv 2)))) pss_nil)
      (pss_one (ps_ret (pe_tup (pa_cons (pe_op o_fdiv (pv 0) (pv 2)) (pa_cons (pe_op o_fdiv (pv 1) (pv 2)) pa_nil))))))))), ?_⟩
    refine w_start [some (.int t), some (.int b), none, none, none] rfl ?_
    try dsimp only [cxOf]
    walk_at "wp"
    rw [absI, absI]
    refine w_while (fun m σ H' => ∃ (x y : Int) (z : Option V), σ = [some (.int t), some (.int b), some (.int x), some (.int y), z] ∧ 0 ≤ x ∧ 0 ≤ y ∧ m = y.natAbs ∧ Nat.gcd x.natAbs y.natAbs = Nat.gcd t.natAbs b.natAbs ∧ H' = H) b.natAbs ⟨_, _, none, rfl, by omega, by omega, by omega, by simp, rfl⟩ fun m σ H' h => ?_
    obtain ⟨x, y, z, rfl, hx, hy, rfl, hg, rfl⟩ := h
    walk_at "wp"
    refine w_dec (fun h0 => w_turn ?_) (fun h0 => ?_)
    · walk_at "wp"
      obtain ⟨g1, g2, g3⟩ := Mth.gcd_step hx h0
      exact ⟨_, by omega, _, _, _, rfl, by omega, g1, rfl, g3.trans hg, rfl⟩
    · have hy0 : y = 0 := by omega
      subst hy0
      have ex : (x.natAbs : Nat) = Nat.gcd t.natAbs b.natAbs := by rw [← hg]; simp
      have hs : (if b < 0 then -x else x) = Mth.sg t b := by
        unfold Mth.sg
        split <;> omega
      have hne := Mth.sg_ne (t := t) hb
      have hlog : (Mth.sg t b).natAbs.log2 < 9000 := log2_le (Mth.sg_le hb) hl
      walk_at "wp"
      refine w_dec (fun hb0 => ?_) (fun hb0 => ?_)
      · rw [if_pos hb0] at hs
        walk_at "wp"
        rw [Int.zero_sub, hs]
        refine w_fdiv ⟨hne, hlog⟩ ?_
        walk_at "wp"
        refine w_fdiv ⟨hne, hlog⟩ ?_
        walk_at "wp"
        exact newT fun p H1 np e1 s1 => q p H1 np e1 s1
      · rw [if_neg hb0] at hs
        subst hs
        walk_at "wp"
        refine w_fdiv ⟨hne, hlog⟩ ?_
        walk_at "wp"
        refine w_fdiv ⟨hne, hlog⟩ ?_
        walk_at "wp"
        exact newT fun p H1 np e1 s1 => q p H1 np e1 s1
/-! ### fractions drawn -/
/-- a tuple of two whole numbers of at most n bits, the second above nought -/
def FrAt (n : Nat) (H : Hp) (p : Addr) (t b : Int) : Prop := H p = some (.tup [.int t, .int b]) ∧ t.natAbs < 2 ^ n ∧ 0 < b ∧ b.natAbs < 2 ^ n
def spFraction (K : PySem.W.Frag) : Sp := fun vs H Q _ => ∃ d : Addr, vs = [.ref d] ∧ DiceAt K H d ∧ ∀ p t b H', H p = none → p ≠ d → FrAt 200 H' p t b → DiceAt K H' d → Keep d H H' → Q (.ref p) H'
theorem c_l_fraction (F : Def K mg "_law_fraction" s_l_fraction) (T : Fre mg) (c_l_next : Cal P w K mg base 1 "_law_next" ["_law_dice_here", "_law_many"] (spNext K)) (c_l_cut : Cal P w K mg base 1 "_law_cut" ["_law_top", "_law_bottom"] spCut) : Cal P w K mg base 2 "_law_fraction" ["_law_dice_here"] (spFraction K) := by
  refine cal_of F sc_l_fraction b_l_fraction (fun vs H Q E h => ?_) (fun cdv A outer s H vs Q E hr h => ?_)
  · obtain ⟨d, rfl, _⟩ := h
    rfl
  · obtain ⟨d, rfl, D, q⟩ := h
    have pc := L2N.passes_call (X := cxOf (L2N.CX P w) P w K mg base ["_law_dice_here", "_law_far", "_law_top", "_law_low"] "_law_fraction" (defScope s_l_fraction) (He.ga K "_law_fraction") cdv A outer s H E) (E := E) (L2N.takes_of rfl rfl rfl rfl) (fun _ _ _ _ h => h)
    refine ⟨_, (pss_cons (ps_set (i := 1) sc_l_fraction.nd rfl (loc_of rfl) (pe_ix (ixL (K := K) rfl) (pe_lst (pa_cons pe_int (pa_cons pe_int (pa_cons (pe_op o_pow pe_int pe_int) (pa_cons (pe_op o_pow pe_int pe_int) pa_nil))))) (pe_cal c_l_next hr (by omega) pc (pa_cons (pv 0) (pa_cons pe_int pa_nil))) (fun _ _ => rfl)))
      (pss_cons (ps_par (by rfl) sc_l_fraction.nd (i := 2) (j := 3) rfl rfl (by decide) rfl rfl (pa_cons (pe_cal c_l_next hr (by omega) pc (pa_cons (pv 0) (pa_cons (pe_op o_add (pv 1) pe_int) pa_nil))) (pa_cons (pe_cal c_l_next hr (by omega) pc (pa_cons (pv 0) (pa_cons (pv 1) pa_nil))) pa_nil)) (by rfl))
      (pss_cons (ps_set (i := 2) sc_l_fraction.nd rfl (loc_of rfl) (pe_ix (ixL (K := K) rfl) (pe_lst (pa_cons (pv 2) (pa_cons (pe_op o_sub pe_int (pv 2)) (pa_cons (pe_op o_sub (pv 1) (pv 2)) (pa_cons (pe_op o_sub (pv 2) (pv 1)) pa_nil))))) (pe_cal c_l_next hr (by omega) pc (pa_cons (pv 0) (pa_cons pe_int pa_nil))) (fun _ _ => rfl)))
      (pss_one (ps_ret (pe_cal c_l_cut hr (by omega) pc (pa_cons (pv 2) (pa_cons (pe_ix (ixL (K := K) rfl) (pe_lst (pa_cons (pe_op o_add pe_int (pv 3)) (pa_cons (pe_op o_sub (pv 1) (pv 3)) pa_nil))) (pe_cal c_l_next hr (by omega) pc (pa_cons (pv 0) (pa_cons pe_int pa_nil))) (fun _ _ => rfl)) pa_nil)))))))), ?_⟩
    refine w_start [some (.ref d), none, none, none] rfl ?_
    try dsimp only [cxOf]
    walk_at "wp"
    refine newL fun l H1 nl e1 s1 => ?_
    have ndl : l ≠ d := by
      obtain ⟨_, _, _, _, _, h1, _⟩ := D.ex
      exact (ne_of_none h1 nl).symm
    walk_at "wp"
    refine ⟨d, 4, rfl, D.same s1, by omega, by decide, fun r H2 r0 r1 D2 k2 => ?_⟩
    have e2 := at_keep k2 e1 ndl
    -- the far end
    obtain ⟨far, ef, f0, f1⟩ : ∃ far : Int, atI [V.int 9, V.int 1000, V.int (10 ^ Int.toNat 20), V.int (10 ^ Int.toNat 59)] r = some (.int far) ∧ 0 < far ∧ far < 2 ^ 198 := by
      have h : r = 0 ∨ r = 1 ∨ r = 2 ∨ r = 3 := by omega
      rcases h with rfl | rfl | rfl | rfl
      · exact ⟨9, rfl, by decide, by decide⟩
      · exact ⟨1000, rfl, by decide, by decide⟩
      · exact ⟨_, rfl, by decide, by decide⟩
      · exact ⟨_, rfl, by decide, by decide⟩
    refine w_ixL (SqL.of e2) ef ?_
    walk_at "wp"
    refine ⟨d, far + 1, rfl, D2, by omega, lg (n := 199) (by omega) (by decide) (by decide), fun t H3 t0 t1 D3 k3 => ?_⟩
    walk_at "wp"
    refine ⟨d, far, rfl, D3, by omega, lg (n := 198) (by omega) (by decide) (by decide), fun low H4 l0 l1 D4 k4 => ?_⟩
    walk_at "wp"
    refine newL fun l5 H5 nl5 e5 s5 => ?_
    have ndl5 : l5 ≠ d := by
      obtain ⟨_, _, _, _, _, h1, _⟩ := D4.ex
      exact (ne_of_none h1 nl5).symm
    walk_at "wp"
    refine ⟨d, 4, rfl, D4.same s5, by omega, by decide, fun r6 H6 r60 r61 D6 k6 => ?_⟩
    have e6 := at_keep k6 e5 ndl5
    obtain ⟨t', et, tb⟩ : ∃ t' : Int, atI [V.int t, V.int (0 - t), V.int (far - t), V.int (t - far)] r6 = some (.int t') ∧ t'.natAbs < 2 ^ 200 := by
      have h : r6 = 0 ∨ r6 = 1 ∨ r6 = 2 ∨ r6 = 3 := by omega
      rcases h with rfl | rfl | rfl | rfl
      · exact ⟨_, rfl, by omega⟩
      · exact ⟨_, rfl, by omega⟩
      · exact ⟨_, rfl, by omega⟩
      · exact ⟨_, rfl, by omega⟩
    refine w_ixL (SqL.of e6) et ?_
    walk_at "wp"
    refine newL fun l7 H7 nl7 e7 s7 => ?_
    have ndl7 : l7 ≠ d := by
      obtain ⟨_, _, _, _, _, h1, _⟩ := D6.ex
      exact (ne_of_none h1 nl7).symm
    walk_at "wp"
    refine ⟨d, 2, rfl, D6.same s7, by omega, by decide, fun r8 H8 r80 r81 D8 k8 => ?_⟩
    have e8 := at_keep k8 e7 ndl7
    obtain ⟨b, eb, b0, bb⟩ : ∃ b : Int, atI [V.int (1 + low), V.int (far - low)] r8 = some (.int b) ∧ 0 < b ∧ b.natAbs < 2 ^ 200 := by
      have h : r8 = 0 ∨ r8 = 1 := by omega
      rcases h with rfl | rfl
      · exact ⟨_, rfl, by omega, by omega⟩
      · exact ⟨_, rfl, by omega, by omega⟩
    refine w_ixL (SqL.of e8) eb ?_
    walk_at "wp"
    refine ⟨t', b, rfl, by omega, lg bb (by decide) (by decide), fun p H9 np e9 s9 => ?_⟩
    have npd : p ≠ d := by
      obtain ⟨_, _, _, _, _, h1, _⟩ := D8.ex
      exact (ne_of_none h1 np).symm
    have K8 : Keep d H H8 := ((((s1.keep k2).trans k3).trans k4).trans (s5.keep k6)).trans (s7.keep k8)
    have np0 : H p = none := by
      cases e : H p with
      | none => rfl
      | some o =>
        rw [K8 p o npd e] at np
        cases np
    exact q p _ _ H9 np0 npd ⟨e9, Nat.lt_of_le_of_lt (Mth.cT_le (by omega)) tb, Mth.cB_pos (by omega), Nat.lt_of_le_of_lt (Mth.cB_le (by omega)) bb⟩ (D8.same s9) (K8.same s9)
/-! ### a callee that stands in a dict of the module -/
def CalA (P : Program) (w : World) (K : PySem.W.Frag) (mg : Str → Option Value) (base : Heap) (j : Nat) (f : Addr) (sp : Sp) : Prop := ∃ fd ps, FnOk P w K mg base (L2N.CX P w) j f fd ps sp ∧ Binds K fd ps [] ∧ PySem.W.keepIn K (.ref f) = true
def tCalV (P : Program) (w : World) (K : PySem.W.Frag) (mg : Str → Option Value) (base : Heap) (j : Nat) (E : XK) (tf : TE) (t : TA) : TE := fun σ H Q => tf σ H fun v H1 => ∃ f sp, v = .ref f ∧ CalA P w K mg base j f sp ∧ t σ H1 fun vs H2 => sp vs H2 Q E
theorem pe_calV {X : Cx} {k j : Nat} {E : XK} {pos : Pos} {fe e : Expr} {es : List Expr} {tf : TE} {t : TA} (hf : PE X fe tf) (hr : Room k X.A) (hj : j ≤ k) (hx : Passes (L2N.CX X.prog X.w) X E) (ha : PA X (e :: es) t)
    (ht : eval (.Call fe (e :: es) [] pos) X.env = (do callWith pos (← eval fe X.env) [] (backTo pos (starEach (e :: es) X.env)) (backToKw pos (keywordEach [] X.env))) := by rfl)
    (he : starEach (e :: es) X.env = (false, eval e X.env) :: starEach es X.env := by rfl) (hpl : (backTo pos (starEach es X.env)).any (·.1) = false := by rfl) :
    PE X (.Call fe (e :: es) [] pos) (tCalV X.prog X.w X.K X.mg X.base j E tf t) := by
  refine ⟨fun pins s σ H Q I h => ?_⟩
  refine Call_ (thn (hf.run pins s σ H _ I h) fun u s1 ⟨y, H1, I1, ry, f, sp, ey, ⟨fd, ps, F, b, kp⟩, q⟩ => ?_) ht
  subst ey
  obtain rfl : u = Value.ref f := ry
  refine PySem.W.callWith_K (h₀ := X.base) I.ok.mod.kin kp (thn (ha.run pos pins s1 σ H1 _ I1 q) fun us s2 ⟨vs, H2, I2, r, q2⟩ => ⟨I2.kIn, ?_⟩) he hpl
  exact run_fn (F.mono hj) hr b .nil hx I2 r (by rw [List.append_nil]; exact q2)
theorem w_calV {j : Nat} {E : XK} {tf : TE} {t : TA} {σ : L2.St} {H : Hp} {Q : VK} (h : tf σ H fun v H1 => ∃ f sp, v = .ref f ∧ CalA P w K mg base j f sp ∧ t σ H1 fun vs H2 => sp vs H2 Q E) : tCalV P w K mg base j E tf t σ H Q := h
theorem calA {x : Str} {ps : List Str} {j : Nat} {sp : Sp} {st : Stmt} (c : Cal P w K mg base j x ps sp) (F : Def K mg x st) : CalA P w K mg base j (He.ga K x) sp := by
  obtain ⟨f, fd, h, b, g, kp⟩ := c.ex
  have e := g.symm.trans F.2
  cases e
  exact ⟨fd, ps, h, b, kp⟩
/-! ### the four signs -/
def S4 (i : Nat) : Str := (["+", "-", "*", "/"] : List Str).getD i ""
def N4 (i : Nat) : Str := (["added", "lessened", "multiplied", "divided"] : List Str).getD i ""
def op4 : Nat → Int → Int → Int → Int → Int × Int
  | 0, a, b, c, d => (a * d + c * b, b * d)
  | 1, a, b, c, d => (a * d - c * b, b * d)
  | 2, a, b, c, d => (a * c, b * d)
  | _, a, b, c, d => (a * d, b * c)
/-- two fractions at p and q, and what comes of the sign i -/
def SgnP (K : PySem.W.Frag) (i : Nat) (p q : Addr) (H : Hp) (Q : VK) (E : XK) : Prop := ∃ a b c d : Int, H p = some (.tup [.int a, .int b]) ∧ H q = some (.tup [.int c, .int d]) ∧ a.natAbs < 2 ^ 4000 ∧ b.natAbs < 2 ^ 4000 ∧ c.natAbs < 2 ^ 4000 ∧ d.natAbs < 2 ^ 4000 ∧
  ((op4 i a b c d).2 ≠ 0 → ∀ r H', H r = none → H' r = some (.tup [.int (Mth.cT (op4 i a b c d).1 (op4 i a b c d).2), .int (Mth.cB (op4 i a b c d).1 (op4 i a b c d).2)]) → Same H H' → Q (.ref r) H') ∧
  ((op4 i a b c d).2 = 0 → ∀ x H', H x = none → H' x = some (.xd [("row", .int 0)]) → Same H H' → E (.ref (He.ga K "ByNought")) (some x) H')
def spSgn (K : PySem.W.Frag) (i : Nat) : Sp := fun vs H Q E => ∃ p q, vs = [.ref p, .ref q] ∧ SgnP K i p q H Q E
theorem lg2 {x y : Int} (hx : x.natAbs < 2 ^ 4000) (hy : y.natAbs < 2 ^ 4000) : (x * y).natAbs.log2 < 9000 := lg (n := 8000) (wide_lt (a := 4000) (b := 4000) hx hy) (by decide) (by decide)
theorem c_added (F : Def K mg "added" s_added) (c_made : Cal P w K mg base 3 "made" ["top", "bottom"] (spMade K)) : Cal P w K mg base 4 "added" ["one", "two"] (spSgn K 0) := by
  refine cal_of F sc_added b_added (fun vs H Q E h => ?_) (fun cdv A outer s H vs Q E hr h => ?_)
  · obtain ⟨p, q, rfl, _⟩ := h
    rfl
  · obtain ⟨p, q, rfl, a, b, c, d, hp, hq, ha, hb, hc, hd, q1, q2⟩ := h
    have tk := L2N.takes_of (X := cxOf (L2N.CX P w) P w K mg base ["one", "two"] "added" (defScope s_added) (He.ga K "added") cdv A outer s H E) (E := E) rfl rfl rfl rfl
    have pc := L2N.passes_call tk (fun _ _ _ _ h => h) (E := E)
    refine ⟨_, (pss_one (ps_ret (pe_cal c_made hr (by omega) pc (pa_cons (pe_op o_add (pe_op o_mul (pe_ix (ixT (K := K) rfl) (pv 0) pe_int (fun _ _ => rfl)) (pe_ix (ixT (K := K) rfl) (pv 1) pe_int (fun _ _ => rfl))) (pe_op o_mul (pe_ix (ixT (K := K) rfl) (pv 1) pe_int (fun _ _ => rfl)) (pe_ix (ixT (K := K) rfl) (pv 0) pe_int (fun _ _ => rfl)))) (pa_cons (pe_op o_mul (pe_ix (ixT (K := K) rfl) (pv 0) pe_int (fun _ _ => rfl)) (pe_ix (ixT (K := K) rfl) (pv 1) pe_int (fun _ _ => rfl))) pa_nil))))), ?_⟩
    refine w_start [some (.ref p), some (.ref q)] rfl ?_
    try dsimp only [cxOf]
    walk_at "wp"
    refine w_mul (mulw (n := 4000) (m := 4000) ha hd (by decide) (by decide) (by decide)) ?_
    walk_at "wp"
    refine w_mul (mulw (n := 4000) (m := 4000) hc hb (by decide) (by decide) (by decide)) ?_
    walk_at "wp"
    refine w_mul (mulw (n := 4000) (m := 4000) hb hd (by decide) (by decide) (by decide)) ?_
    walk_at "wp"
    exact ⟨a * d + c * b, b * d, rfl, lg2 hb hd, q1, q2⟩
theorem c_lessened (F : Def K mg "lessened" s_lessened) (c_made : Cal P w K mg base 3 "made" ["top", "bottom"] (spMade K)) : Cal P w K mg base 4 "lessened" ["one", "two"] (spSgn K 1) := by
  refine cal_of F sc_lessened b_lessened (fun vs H Q E h => ?_) (fun cdv A outer s H vs Q E hr h => ?_)
  · obtain ⟨p, q, rfl, _⟩ := h
    rfl
  · obtain ⟨p, q, rfl, a, b, c, d, hp, hq, ha, hb, hc, hd, q1, q2⟩ := h
    have tk := L2N.takes_of (X := cxOf (L2N.CX P w) P w K mg base ["one", "two"] "lessened" (defScope s_lessened) (He.ga K "lessened") cdv A outer s H E) (E := E) rfl rfl rfl rfl
    have pc := L2N.passes_call tk (fun _ _ _ _ h => h) (E := E)
    refine ⟨_, (pss_one (ps_ret (pe_cal c_made hr (by omega) pc (pa_cons (pe_op o_sub (pe_op o_mul (pe_ix (ixT (K := K) rfl) (pv 0) pe_int (fun _ _ => rfl)) (pe_ix (ixT (K := K) rfl) (pv 1) pe_int (fun _ _ => rfl))) (pe_op o_mul (pe_ix (ixT (K := K) rfl) (pv 1) pe_int (fun _ _ => rfl)) (pe_ix (ixT (K := K) rfl) (pv 0) pe_int (fun _ _ => rfl)))) (pa_cons (pe_op o_mul (pe_ix (ixT (K := K) rfl) (pv 0) pe_int (fun _ _ => rfl)) (pe_ix (ixT (K := K) rfl) (pv 1) pe_int (fun _ _ => rfl))) pa_nil))))), ?_⟩
    refine w_start [some (.ref p), some (.ref q)] rfl ?_
    try dsimp only [cxOf]
    walk_at "wp"
    refine w_mul (mulw (n := 4000) (m := 4000) ha hd (by decide) (by decide) (by decide)) ?_
    walk_at "wp"
    refine w_mul (mulw (n := 4000) (m := 4000) hc hb (by decide) (by decide) (by decide)) ?_
    walk_at "wp"
    refine w_mul (mulw (n := 4000) (m := 4000) hb hd (by decide) (by decide) (by decide)) ?_
    walk_at "wp"
    exact ⟨a * d - c * b, b * d, rfl, lg2 hb hd, q1, q2⟩
theorem c_multiplied (F : Def K mg "multiplied" s_multiplied) (c_made : Cal P w K mg base 3 "made" ["top", "bottom"] (spMade K)) : Cal P w K mg base 4 "multiplied" ["one", "two"] (spSgn K 2) := by
  refine cal_of F sc_multiplied b_multiplied (fun vs H Q E h => ?_) (fun cdv A outer s H vs Q E hr h => ?_)
  · obtain ⟨p, q, rfl, _⟩ := h
    rfl
  · obtain ⟨p, q, rfl, a, b, c, d, hp, hq, ha, hb, hc, hd, q1, q2⟩ := h
    have tk := L2N.takes_of (X := cxOf (L2N.CX P w) P w K mg base ["one", "two"] "multiplied" (defScope s_multiplied) (He.ga K "multiplied") cdv A outer s H E) (E := E) rfl rfl rfl rfl
    have pc := L2N.passes_call tk (fun _ _ _ _ h => h) (E := E)
    refine ⟨_, (pss_one (ps_ret (pe_cal c_made hr (by omega) pc (pa_cons (pe_op o_mul (pe_ix (ixT (K := K) rfl) (pv 0) pe_int (fun _ _ => rfl)) (pe_ix (ixT (K := K) rfl) (pv 1) pe_int (fun _ _ => rfl))) (pa_cons (pe_op o_mul (pe_ix (ixT (K := K) rfl) (pv 0) pe_int (fun _ _ => rfl)) (pe_ix (ixT (K := K) rfl) (pv 1) pe_int (fun _ _ => rfl))) pa_nil))))), ?_⟩
    refine w_start [some (.ref p), some (.ref q)] rfl ?_
    try dsimp only [cxOf]
    walk_at "wp"
    refine w_mul (mulw (n := 4000) (m := 4000) ha hc (by decide) (by decide) (by decide)) ?_
    walk_at "wp"
    refine w_mul (mulw (n := 4000) (m := 4000) hb hd (by decide) (by decide) (by decide)) ?_
    walk_at "wp"
    exact ⟨a * c, b * d, rfl, lg2 hb hd, q1, q2⟩
theorem c_divided (F : Def K mg "divided" s_divided) (c_made : Cal P w K mg base 3 "made" ["top", "bottom"] (spMade K)) : Cal P w K mg base 4 "divided" ["one", "two"] (spSgn K 3) := by
  refine cal_of F sc_divided b_divided (fun vs H Q E h => ?_) (fun cdv A outer s H vs Q E hr h => ?_)
  · obtain ⟨p, q, rfl, _⟩ := h
    rfl
  · obtain ⟨p, q, rfl, a, b, c, d, hp, hq, ha, hb, hc, hd, q1, q2⟩ := h
    have tk := L2N.takes_of (X := cxOf (L2N.CX P w) P w K mg base ["one", "two"] "divided" (defScope s_divided) (He.ga K "divided") cdv A outer s H E) (E := E) rfl rfl rfl rfl
    have pc := L2N.passes_call tk (fun _ _ _ _ h => h) (E := E)
    refine ⟨_, (pss_one (ps_ret (pe_cal c_made hr (by omega) pc (pa_cons (pe_op o_mul (pe_ix (ixT (K := K) rfl) (pv 0) pe_int (fun _ _ => rfl)) (pe_ix (ixT (K := K) rfl) (pv 1) pe_int (fun _ _ => rfl))) (pa_cons (pe_op o_mul (pe_ix (ixT (K := K) rfl) (pv 0) pe_int (fun _ _ => rfl)) (pe_ix (ixT (K := K) rfl) (pv 1) pe_int (fun _ _ => rfl))) pa_nil))))), ?_⟩
    refine w_start [some (.ref p), some (.ref q)] rfl ?_
    try dsimp only [cxOf]
    walk_at "wp"
    refine w_mul (mulw (n := 4000) (m := 4000) ha hd (by decide) (by decide) (by decide)) ?_
    walk_at "wp"
    refine w_mul (mulw (n := 4000) (m := 4000) hb hc (by decide) (by decide) (by decide)) ?_
    walk_at "wp"
    exact ⟨a * d, b * c, rfl, lg2 hb hc, q1, q2⟩
/-- what the top holds of WORKS -/
def worksB (K : PySem.W.Frag) : Bool := ((List.range 4).all fun i => decide (PySem.W.nsIn K (He.ga K "WORKS") (S4 i) = some (some (.ref (He.ga K (N4 i)))))) && decide (PySem.W.nsIn K mainGlobals "WORKS" = some (some (.ref (He.ga K "WORKS"))))
def spWorked (K : PySem.W.Frag) : Sp := fun vs H Q E => ∃ i p q, i < 4 ∧ vs = [.str (S4 i), .ref p, .ref q] ∧ SgnP K i p q H Q E
theorem c_worked (F : Def K mg "worked" s_worked) (g_WORKS : mg "WORKS" = some (.ref (He.ga K "WORKS"))) (wk : ∀ i, i < 4 → KDct K w (He.ga K "WORKS") (S4 i) (.ref (He.ga K (N4 i))))
    (s4 : ∀ i, i < 4 → CalA P w K mg base 4 (He.ga K (N4 i)) (spSgn K i)) : Cal P w K mg base 5 "worked" ["sign", "one", "two"] (spWorked K) := by
  refine cal_of F sc_worked b_worked (fun vs H Q E h => ?_) (fun cdv A outer s H vs Q E hr h => ?_)
  · obtain ⟨i, p, q, _, rfl, _⟩ := h
    rfl
  · obtain ⟨i, p, q, hi, rfl, h⟩ := h
    have tk := L2N.takes_of (X := cxOf (L2N.CX P w) P w K mg base ["sign", "one", "two"] "worked" (defScope s_worked) (He.ga K "worked") cdv A outer s H E) (E := E) rfl rfl rfl rfl
    have pc := L2N.passes_call tk (fun _ _ _ _ h => h) (E := E)
    refine ⟨_, (pss_one (ps_ret (pe_calV (j := 4) (pe_ix ix_kdict (pe_glob (v := .ref (He.ga K "WORKS")) (by rfl) g_WORKS rfl) (pv 0) (fun _ _ => rfl)) hr (by omega) pc (pa_cons (pv 1) (pa_cons (pv 2) pa_nil))))), ?_⟩
    refine w_start [some (.str (S4 i)), some (.ref p), some (.ref q)] rfl ?_
    try dsimp only [cxOf]
    walk_at "wp"
    refine w_calV ?_
    walk_at "wp"
    refine ⟨_, _, _, rfl, rfl, wk i hi, ?_⟩
    refine ⟨_, _, rfl, s4 i hi, ?_⟩
    walk_at "wp"
    exact ⟨p, q, rfl, h⟩
theorem worksB_ok {h : Heap} (X : K.In h) (G : h.Ns mainGlobals mg) (q : worksB K = true) (kd : ∃ es n, KDict K w (He.ga K "WORKS") es n) : mg "WORKS" = some (.ref (He.ga K "WORKS")) ∧ ∀ i, i < 4 → KDct K w (He.ga K "WORKS") (S4 i) (.ref (He.ga K (N4 i))) := by
  obtain ⟨q1, q2⟩ := Bool.and_eq_true_iff.mp q
  obtain ⟨es, n, D⟩ := kd
  exact ⟨PySem.W.mg_of X G (of_decide_eq_true q2), fun i hi => ⟨es, n, _, D.at_, D.lit, of_decide_eq_true (List.all_eq_true.mp q1 i (List.mem_range.mpr hi)), rfl⟩⟩
theorem s4_ok (c0 : CalA P w K mg base 4 (He.ga K "added") (spSgn K 0)) (c1 : CalA P w K mg base 4 (He.ga K "lessened") (spSgn K 1)) (c2 : CalA P w K mg base 4 (He.ga K "multiplied") (spSgn K 2)) (c3 : CalA P w K mg base 4 (He.ga K "divided") (spSgn K 3)) (i : Nat) (hi : i < 4) : CalA P w K mg base 4 (He.ga K (N4 i)) (spSgn K i) := by
  have hin : i = 0 ∨ i = 1 ∨ i = 2 ∨ i = 3 := by omega
  rcases hin with rfl | rfl | rfl | rfl
  · exact c0
  · exact c1
  · exact c2
  · exact c3
end
end Lw

namespace Lw
open PySem PySem.Spec PyProof.Rows L2 Fw Htx
local macro_rules | `(tactic| walk_at "cond") => `(tactic| first | assumption | (with_reducible exact cdiv_small (by omega) (by omega)) | (with_reducible exact cmul_small (by omega) (by omega)) | (with_reducible exact cpow_mk (by omega) (by omega) (by omega)) | omega)
local macro_rules | `(tactic| walk_at "ne") => `(tactic| first | assumption | exact Ne.symm (by assumption) | exact ne_of_none (by assumption) (by assumption) | exact Ne.symm (ne_of_none (by assumption) (by assumption)))
local macro_rules | `(tactic| walk_at "at") => `(tactic| first
  | assumption
  | (with_reducible exact upd_same)
  | ((with_reducible refine' at_same ?hk ?hh); (case hk => assumption); (case hh => walk_at "at"))
  | ((with_reducible refine' at_keepT ?hk ?hh ?hd); (case hk => assumption); (case hh => walk_at "at"); (case hd => walk_at "at"))
  | ((with_reducible refine' at_keep ?hk ?hh ?hn); (case hk => assumption); (case hh => walk_at "at"); (case hn => walk_at "ne")))
local macro_rules | `(tactic| walk_at "hp") => `(tactic| first
  | assumption
  | ((with_reducible refine' SqT.of ?hq); (case hq => walk_at "at")) | ((with_reducible refine' SqL.of ?hq); (case hq => walk_at "at"))
  | ((with_reducible refine' sql_same ?hk ?hh); (case hk => assumption); (case hh => walk_at "hp"))
  | ((with_reducible refine' sql_keep ?hk ?hh ?hn); (case hk => assumption); (case hh => walk_at "hp"); (case hn => walk_at "ne"))
  | ((with_reducible refine' sqt_same ?hk ?hh); (case hk => assumption); (case hh => walk_at "hp")))
local macro_rules | `(tactic| walk_at "wp1") => `(tactic| first
  | with_reducible refine w_rz ?_ | with_reducible refine w_calX ?_ | with_reducible refine w_calS ?_ | with_reducible refine w_row ?_
  | with_reducible refine w_seq ?_ | with_reducible refine w_set ?_ | with_reducible refine w_drop ?_ | with_reducible refine w_ret ?_ | with_reducible refine w_ifS ?_ | with_reducible refine w_next ?_
  | ((with_reducible refine' w_var ?hv ?_); (case hv => rfl)) | with_reducible refine w_c ?_
  | with_reducible refine w_op ?_ | with_reducible refine w_un ?_ | with_reducible refine w_cb ?_ | with_reducible refine w_cal ?_ | with_reducible refine w_cons ?_ | with_reducible refine w_nil ?_
  | with_reducible refine w_plus ?_ | with_reducible refine w_minus ?_ | with_reducible refine w_lt ?_ | with_reducible refine w_le ?_ | with_reducible refine w_gt ?_ | with_reducible refine w_ge ?_
  | with_reducible refine w_eqI ?_ | with_reducible refine w_neI ?_ | with_reducible refine w_eqB ?_ | with_reducible refine w_neB ?_ | with_reducible refine w_eqS ?_ | with_reducible refine w_neS ?_
  | with_reducible refine w_neg ?_ | with_reducible refine w_abs ?_ | with_reducible refine w_intB ?_ | with_reducible refine w_test ?_ | with_reducible refine w_tB ?_ | with_reducible refine w_bl ?_
  | with_reducible refine w_and ?_ | with_reducible refine w_or ?_ | with_reducible refine w_not ?_ | with_reducible refine w_andV ?_ | with_reducible refine w_orV ?_ | with_reducible refine w_notV ?_ | with_reducible refine w_ifE ?_
  | with_reducible refine w_nyes ?_ | with_reducible refine w_nno ?_ | with_reducible refine w_yes ?_ | with_reducible refine w_no ?_
  | ((with_reducible refine' w_ixL ?ha ?hb ?_); (case ha => walk_at "hp"); (case hb => rfl)) | ((with_reducible refine' w_ixT ?ha ?hb ?_); (case ha => walk_at "hp"); (case hb => rfl))
  | ((with_reducible refine' w_lenL ?ha ?_); (case ha => walk_at "hp")) | ((with_reducible refine' w_lenT ?ha ?_); (case ha => walk_at "hp"))
  | with_reducible refine w_min2 ?_ | with_reducible refine w_max2 ?_ | with_reducible refine w_bm ?_ | with_reducible refine w_lc ?_ | ((with_reducible refine' w_tyL ?ha ?_); (case ha => walk_at "at"))
  | with_reducible refine isi_ii ?_ | with_reducible refine isi_ib ?_ | with_reducible refine isi_bb ?_ | with_reducible refine isi_ss ?_
  | ((with_reducible refine' isi_tt ?ha ?_); (case ha => walk_at "at")) | ((with_reducible refine' isi_ll ?ha ?_); (case ha => walk_at "at"))
  | with_reducible refine w_par ?_ | with_reducible refine w_par2 ?_ | with_reducible refine w_for ?_ | with_reducible refine w_iL ?_ | with_reducible refine w_iT ?_ | with_reducible refine w_iR1 ?_ | with_reducible refine w_iR2 ?_
  | with_reducible refine w_tup ?_ | with_reducible refine w_lst ?_
  | with_reducible refine w_asg ?_ | with_reducible refine w_gname ?_ | with_reducible refine w_gcons ?_ | with_reducible refine w_gnil ?_ | with_reducible refine w_gsub ?_
  | ((with_reducible refine' w_gtup ?ha ?hb ?_); (case ha => walk_at "hp"); (case hb => rfl))
  | ((with_reducible refine' w_fdiv ?hc ?_); (case hc => walk_at "cond")) | ((with_reducible refine' w_mul ?hc ?_); (case hc => walk_at "cond"))
  | ((with_reducible refine' w_mod ?hc ?_); (case hc => walk_at "cond")) | ((with_reducible refine' w_pow ?hc ?_); (case hc => walk_at "cond")))
local macro_rules | `(tactic| walk_at "wp") => `(tactic| repeat walk_at "wp1")
section
variable {P : Program} {w : World} {K : PySem.W.Frag} {mg : Str → Option Value} {base : Heap}
/-! ### the law's own -/
def spSame : Sp := fun vs H Q _ => ∃ (p q : Addr) (x y : Int), vs = [.ref p, .ref q] ∧ H p = some (.tup [.int x, .int y]) ∧ H q = some (.tup [.int x, .int y]) ∧ Q (.bl true) H
theorem c_l_same (F : Def K mg "_law_same" s_l_same) (T : Fre mg) (c_l_whole : Cal P w K mg base 1 "_law_whole" ["_law_found"] spWhole) : Cal P w K mg base 2 "_law_same" ["_law_found", "_law_due"] spSame := by
  refine cal_of F sc_l_same b_l_same (fun vs H Q E h => ?_) (fun cdv A outer s H vs Q E hr h => ?_)
  · obtain ⟨p, q, x, y, rfl, _⟩ := h
    rfl
  · obtain ⟨p, q, x, y, rfl, hp, hq, k⟩ := h
    have tk := L2N.takes_of (X := cxOf (L2N.CX P w) P w K mg base ["_law_found", "_law_due"] "_law_same" (defScope s_l_same) (He.ga K "_law_same") cdv A outer s H E) (E := E) rfl rfl rfl rfl
    have pc := L2N.passes_call tk (fun _ _ _ _ h => h) (E := E)
    have hu64 : (cxOf (L2N.CX P w) P w K mg base ["_law_found", "_law_due"] "_law_same" (defScope s_l_same) (He.ga K "_law_same") cdv A outer s H E).A.units + 64 < cLine := by
      have := hr.un
      show (A.deeper _).units + 64 < cLine
      omega
    refine ⟨_, (pss_cons (ps_if (PW.pt (pw_or (pt_not (pt_val (pe_callB (c_isiK (K := K) rfl) (by rfl) T.f_isinstance (by decide +kernel) (pa_cons (pv 0) (pa_cons (pe_bltn (v := .ty "tuple") (by rfl) T.f_tuple (by decide +kernel) rfl) pa_nil))))) (pw_or1 (pt_cmpR op_ne (pe_callB (c_lenK (K := K) rfl) (by rfl) T.f_len (by decide +kernel) (pa_cons (pv 0) pa_nil)) pe_int (nomark _))))) (pss_one (ps_ret pe_bl)) pss_nil)
      (pss_one (ps_ret (pe_and (pe_cal c_l_whole hr (by omega) pc (pa_cons (pe_ix (ixT (K := K) rfl) (pv 0) pe_int (fun _ _ => rfl)) pa_nil)) (pe_and (pe_cal c_l_whole hr (by omega) pc (pa_cons (pe_ix (ixT (K := K) rfl) (pv 0) pe_int (fun _ _ => rfl)) pa_nil)) (pe_one (pe_cmpR (op_eqD hu64) (pv 0) (pv 1) (nomark _)))))))), ?_⟩
    refine w_start [some (.ref p), some (.ref q)] rfl ?_
    try dsimp only [cxOf]
    walk_at "wp"
    refine w_decNO rfl ?_
    walk_at "wp"
    refine ⟨_, rfl, ?_⟩
    walk_at "wp"
    refine ⟨_, rfl, ?_⟩
    walk_at "wp"
    refine ⟨_, _, .tup (SqT.of hp) (.cons (.int _) (.cons (.int _) .nil)), .tup (SqT.of hq) (.cons (.int _) (.cons (.int _) .nil)), rfl, rfl, ?_⟩
    have e : PyData.eqv (.tuple [.int x, .int y]) (.tuple [.int x, .int y]) = true := by simp [PyData.eqv, PyData.eqvAll]
    rw [e]
    exact k
/-- _law_worked: the sign's fraction by _law_cut -/
def spLWorked (K : PySem.W.Frag) : Sp := fun vs H Q _ => ∃ (i : Nat) (p q : Addr) (a b c d : Int), i < 4 ∧ vs = [.str (S4 i), .ref p, .ref q] ∧ H p = some (.tup [.int a, .int b]) ∧ H q = some (.tup [.int c, .int d]) ∧ a.natAbs < 2 ^ 4000 ∧ b.natAbs < 2 ^ 4000 ∧ c.natAbs < 2 ^ 4000 ∧ d.natAbs < 2 ^ 4000 ∧
  (op4 i a b c d).2 ≠ 0 ∧ ∀ r H', H r = none → H' r = some (.tup [.int (Mth.cT (op4 i a b c d).1 (op4 i a b c d).2), .int (Mth.cB (op4 i a b c d).1 (op4 i a b c d).2)]) → Same H H' → Q (.ref r) H'
theorem c_l_worked (F : Def K mg "_law_worked" s_l_worked) (c_l_cut : Cal P w K mg base 1 "_law_cut" ["_law_top", "_law_bottom"] spCut) : Cal P w K mg base 2 "_law_worked" ["_law_sign", "_law_a", "_law_b"] (spLWorked K) := by
  refine cal_of F sc_l_worked b_l_worked (fun vs H Q E h => ?_) (fun cdv A outer s H vs Q E hr h => ?_)
  · obtain ⟨i, p, q, a, b, c, d, _, rfl, _⟩ := h
    rfl
  · obtain ⟨i, p, q, a, b, c, d, hi, rfl, hp, hq, ha, hb, hc, hd, h0, k⟩ := h
    have tk := L2N.takes_of (X := cxOf (L2N.CX P w) P w K mg base ["_law_sign", "_law_a", "_law_b"] "_law_worked" (defScope s_l_worked) (He.ga K "_law_worked") cdv A outer s H E) (E := E) rfl rfl rfl rfl
    have pc := L2N.passes_call tk (fun _ _ _ _ h => h) (E := E)
    refine ⟨_, (pss_cons (ps_if (pt_cmpR op_eq (pv 0) pe_str (nomark _)) (pss_one (ps_ret (pe_cal c_l_cut hr (by omega) pc (pa_cons (pe_op o_add (pe_op o_mul (pe_ix (ixT (K := K) rfl) (pv 1) pe_int (fun _ _ => rfl)) (pe_ix (ixT (K := K) rfl) (pv 2) pe_int (fun _ _ => rfl))) (pe_op o_mul (pe_ix (ixT (K := K) rfl) (pv 2) pe_int (fun _ _ => rfl)) (pe_ix (ixT (K := K) rfl) (pv 1) pe_int (fun _ _ => rfl)))) (pa_cons (pe_op o_mul (pe_ix (ixT (K := K) rfl) (pv 1) pe_int (fun _ _ => rfl)) (pe_ix (ixT (K := K) rfl) (pv 2) pe_int (fun _ _ => rfl))) pa_nil))))) pss_nil)
      (pss_cons (ps_if (pt_cmpR op_eq (pv 0) pe_str (nomark _)) (pss_one (ps_ret (pe_cal c_l_cut hr (by omega) pc (pa_cons (pe_op o_sub (pe_op o_mul (pe_ix (ixT (K := K) rfl) (pv 1) pe_int (fun _ _ => rfl)) (pe_ix (ixT (K := K) rfl) (pv 2) pe_int (fun _ _ => rfl))) (pe_op o_mul (pe_ix (ixT (K := K) rfl) (pv 2) pe_int (fun _ _ => rfl)) (pe_ix (ixT (K := K) rfl) (pv 1) pe_int (fun _ _ => rfl)))) (pa_cons (pe_op o_mul (pe_ix (ixT (K := K) rfl) (pv 1) pe_int (fun _ _ => rfl)) (pe_ix (ixT (K := K) rfl) (pv 2) pe_int (fun _ _ => rfl))) pa_nil))))) pss_nil)
      (pss_cons (ps_if (pt_cmpR op_eq (pv 0) pe_str (nomark _)) (pss_one (ps_ret (pe_cal c_l_cut hr (by omega) pc (pa_cons (pe_op o_mul (pe_ix (ixT (K := K) rfl) (pv 1) pe_int (fun _ _ => rfl)) (pe_ix (ixT (K := K) rfl) (pv 2) pe_int (fun _ _ => rfl))) (pa_cons (pe_op o_mul (pe_ix (ixT (K := K) rfl) (pv 1) pe_int (fun _ _ => rfl)) (pe_ix (ixT (K := K) rfl) (pv 2) pe_int (fun _ _ => rfl))) pa_nil))))) pss_nil)
      (pss_one (ps_ret (pe_cal c_l_cut hr (by omega) pc (pa_cons (pe_op o_mul (pe_ix (ixT (K := K) rfl) (pv 1) pe_int (fun _ _ => rfl)) (pe_ix (ixT (K := K) rfl) (pv 2) pe_int (fun _ _ => rfl))) (pa_cons (pe_op o_mul (pe_ix (ixT (K := K) rfl) (pv 1) pe_int (fun _ _ => rfl)) (pe_ix (ixT (K := K) rfl) (pv 2) pe_int (fun _ _ => rfl))) pa_nil)))))))), ?_⟩
    refine w_start [some (.str (S4 i)), some (.ref p), some (.ref q)] rfl ?_
    try dsimp only [cxOf]
    walk_at "wp"
    have hin : i = 0 ∨ i = 1 ∨ i = 2 ∨ i = 3 := by omega
    rcases hin with rfl | rfl | rfl | rfl
    · refine w_decY rfl ?_
      walk_at "wp"
      refine w_mul (mulw (n := 4000) (m := 4000) ha hd (by decide) (by decide) (by decide)) ?_
      walk_at "wp"
      refine w_mul (mulw (n := 4000) (m := 4000) hc hb (by decide) (by decide) (by decide)) ?_
      walk_at "wp"
      refine w_mul (mulw (n := 4000) (m := 4000) hb hd (by decide) (by decide) (by decide)) ?_
      walk_at "wp"
      exact ⟨_, _, rfl, h0, lg2 hb hd, k⟩
    · refine w_decO (by decide) ?_
      walk_at "wp"
      refine w_decY rfl ?_
      walk_at "wp"
      refine w_mul (mulw (n := 4000) (m := 4000) ha hd (by decide) (by decide) (by decide)) ?_
      walk_at "wp"
      refine w_mul (mulw (n := 4000) (m := 4000) hc hb (by decide) (by decide) (by decide)) ?_
      walk_at "wp"
      refine w_mul (mulw (n := 4000) (m := 4000) hb hd (by decide) (by decide) (by decide)) ?_
      walk_at "wp"
      exact ⟨_, _, rfl, h0, lg2 hb hd, k⟩
    · refine w_decO (by decide) ?_
      walk_at "wp"
      refine w_decO (by decide) ?_
      walk_at "wp"
      refine w_decY rfl ?_
      walk_at "wp"
      refine w_mul (mulw (n := 4000) (m := 4000) ha hc (by decide) (by decide) (by decide)) ?_
      walk_at "wp"
      refine w_mul (mulw (n := 4000) (m := 4000) hb hd (by decide) (by decide) (by decide)) ?_
      walk_at "wp"
      exact ⟨_, _, rfl, h0, lg2 hb hd, k⟩
    · refine w_decO (by decide) ?_
      walk_at "wp"
      refine w_decO (by decide) ?_
      walk_at "wp"
      refine w_decO (by decide) ?_
      walk_at "wp"
      refine w_mul (mulw (n := 4000) (m := 4000) ha hd (by decide) (by decide) (by decide)) ?_
      walk_at "wp"
      refine w_mul (mulw (n := 4000) (m := 4000) hb hc (by decide) (by decide) (by decide)) ?_
      walk_at "wp"
      exact ⟨_, _, rfl, h0, lg2 hb hc, k⟩
theorem c_l_by (F : Def K mg "_law_by" s_l_by) (c_added : Cal P w K mg base 4 "added" ["one", "two"] (spSgn K 0)) (c_lessened : Cal P w K mg base 4 "lessened" ["one", "two"] (spSgn K 1))
    (c_multiplied : Cal P w K mg base 4 "multiplied" ["one", "two"] (spSgn K 2)) (c_divided : Cal P w K mg base 4 "divided" ["one", "two"] (spSgn K 3)) : Cal P w K mg base 5 "_law_by" ["_law_sign", "_law_one", "_law_two"] (spWorked K) := by
  refine cal_of F sc_l_by b_l_by (fun vs H Q E h => ?_) (fun cdv A outer s H vs Q E hr h => ?_)
  · obtain ⟨i, p, q, _, rfl, _⟩ := h
    rfl
  · obtain ⟨i, p, q, hi, rfl, h⟩ := h
    have tk := L2N.takes_of (X := cxOf (L2N.CX P w) P w K mg base ["_law_sign", "_law_one", "_law_two"] "_law_by" (defScope s_l_by) (He.ga K "_law_by") cdv A outer s H E) (E := E) rfl rfl rfl rfl
    have pc := L2N.passes_call tk (fun _ _ _ _ h => h) (E := E)
    refine ⟨_, (pss_cons (ps_if (pt_cmpR op_eq (pv 0) pe_str (nomark _)) (pss_one (ps_ret (pe_cal c_added hr (by omega) pc (pa_cons (pv 1) (pa_cons (pv 2) pa_nil))))) pss_nil)
      (pss_cons (ps_if (pt_cmpR op_eq (pv 0) pe_str (nomark _)) (pss_one (ps_ret (pe_cal c_lessened hr (by omega) pc (pa_cons (pv 1) (pa_cons (pv 2) pa_nil))))) pss_nil)
      (pss_cons (ps_if (pt_cmpR op_eq (pv 0) pe_str (nomark _)) (pss_one (ps_ret (pe_cal c_multiplied hr (by omega) pc (pa_cons (pv 1) (pa_cons (pv 2) pa_nil))))) pss_nil)
      (pss_one (ps_ret (pe_cal c_divided hr (by omega) pc (pa_cons (pv 1) (pa_cons (pv 2) pa_nil)))))))), ?_⟩
    refine w_start [some (.str (S4 i)), some (.ref p), some (.ref q)] rfl ?_
    try dsimp only [cxOf]
    walk_at "wp"
    have hin : i = 0 ∨ i = 1 ∨ i = 2 ∨ i = 3 := by omega
    rcases hin with rfl | rfl | rfl | rfl
    · refine w_decY rfl ?_
      walk_at "wp"
      exact ⟨p, q, rfl, h⟩
    · refine w_decO (by decide) ?_
      walk_at "wp"
      refine w_decY rfl ?_
      walk_at "wp"
      exact ⟨p, q, rfl, h⟩
    · refine w_decO (by decide) ?_
      walk_at "wp"
      refine w_decO (by decide) ?_
      walk_at "wp"
      refine w_decY rfl ?_
      walk_at "wp"
      exact ⟨p, q, rfl, h⟩
    · refine w_decO (by decide) ?_
      walk_at "wp"
      refine w_decO (by decide) ?_
      walk_at "wp"
      refine w_decO (by decide) ?_
      walk_at "wp"
      exact ⟨p, q, rfl, h⟩
def spRefused : Sp := fun vs H Q _ => ∃ (p q : Addr) (a b d way : Int), vs = [.str (S4 3), .ref p, .ref q, .int way] ∧ H p = some (.tup [.int a, .int b]) ∧ H q = some (.tup [.int 0, .int d]) ∧ a.natAbs < 2 ^ 4000 ∧ b.natAbs < 2 ^ 4000 ∧ d.natAbs < 2 ^ 4000 ∧ ∀ H', Same H H' → Q (.bl true) H'
theorem c_l_refused (F : Def K mg "_law_refused" s_l_refused) (R : Refus K mg) (c_worked : Cal P w K mg base 5 "worked" ["sign", "one", "two"] (spWorked K)) (c_l_by : Cal P w K mg base 5 "_law_by" ["_law_sign", "_law_one", "_law_two"] (spWorked K))
    (x_l_whole : CalX P w K mg base 1 "_law_whole" ["_law_found"] spWholeX) (x_l_is : CalX P w K mg base 1 "_law_is" ["_law_e", "_law_word"] (spIs K)) : Cal P w K mg base 6 "_law_refused" ["_law_sign", "_law_one", "_law_two", "_law_way"] spRefused := by
  refine cal_of F sc_l_refused b_l_refused (fun vs H Q E h => ?_) (fun cdv A outer s H vs Q E hr h => ?_)
  · obtain ⟨_, _, _, _, _, _, rfl, _⟩ := h
    rfl
  · obtain ⟨p, q, a, b, d, way, rfl, hp, hq, ha, hb, hd, k⟩ := h
    have tk := L2N.takes_of (X := cxOf (L2N.CX P w) P w K mg base ["_law_sign", "_law_one", "_law_two", "_law_way", "_law_e"] "_law_refused" (defScope s_l_refused) (He.ga K "_law_refused") cdv A outer s H E) (E := E) rfl rfl rfl rfl
    refine ⟨_, (pss_cons (L2N.ps_try_as (i := 4) rfl rfl sc_l_refused.nd rfl rfl ⟨rfl, by decide, .inl R.sl⟩ tk (fun W pn xe tk _ => (pss_one (ps_if (pt_cmpR op_eq (pv 3) pe_int (nomark _)) (pss_one (ps_expr (pe_calS c_worked hr (by omega) tk (pa_cons (pv 0) (pa_cons (pv 1) (pa_cons (pv 2) pa_nil)))))) (pss_one (ps_expr (pe_calS c_l_by hr (by omega) tk (pa_cons (pv 0) (pa_cons (pv 1) (pa_cons (pv 2) pa_nil))))))))) (fun a oe cls d pn hz hf => (pss_one (ps_ret (pe_and (pe_calX x_l_is hr (by omega) hz hf (pa_cons (pv 4) (pa_cons pe_str pa_nil))) (pe_and (pe_calX x_l_whole hr (by omega) hz hf (pa_cons (pe_row hz hf (pv 4)) pa_nil)) (pe_one (pe_cmpR op_eq (pe_row hz hf (pv 4)) pe_int (nomark _)))))))))
      (pss_one (ps_ret pe_bl))), ?_⟩
    refine w_start [some (.str (S4 3)), some (.ref p), some (.ref q), some (.int way), none] rfl ?_
    try dsimp only [cxOf]
    have e0 : (op4 3 a b 0 d).2 = 0 := Int.mul_zero _
    walk_at "wp"
    refine w_dec (fun hw => ?_) (fun hw => ?_)
    all_goals
      walk_at "wp"
      refine ⟨3, p, q, by decide, rfl, a, b, 0, d, hp, hq, ha, hb, by decide, hd, fun h => absurd e0 h, fun _ e H6 ne ee se => ?_⟩
      refine ⟨true, (R.z 5 (by decide)).sub, fun _ x nx => ?_, fun h => absurd h (by decide)⟩
      walk_at "wp"
      refine ⟨5, e, _, by decide, rfl, rfl, ee, rfl, fun H7 s7 => ?_⟩
      walk_at "wp"
      refine ⟨He.ga K "ByNought", e, _, .int 0, rfl, rfl, (R.z 5 (by decide)).f, (R.z 5 (by decide)).row, rfl, s7 _ _ ee, rfl, ?_⟩
      refine ⟨0, rfl, ?_⟩
      walk_at "wp"
      refine ⟨He.ga K "ByNought", e, _, .int 0, rfl, rfl, (R.z 5 (by decide)).f, (R.z 5 (by decide)).row, rfl, s7 _ _ ee, rfl, ?_⟩
      walk_at "wp"
      rw [decide_eq_true rfl]
      exact k _ (se.trans s7)
/-! ### the law -/
theorem s4_at (r : Int) (r0 : 0 ≤ r) (r1 : r < 4) : ∃ i c, i < 4 ∧ atI ("+-*/" : Str).cps.toList r = some c ∧ (⟨#[c]⟩ : Str) = S4 i := by
  have h : r = 0 ∨ r = 1 ∨ r = 2 ∨ r = 3 := by omega
  rcases h with rfl | rfl | rfl | rfl
  · exact ⟨0, _, by decide, rfl, rfl⟩
  · exact ⟨1, _, by decide, rfl, rfl⟩
  · exact ⟨2, _, by decide, rfl, rfl⟩
  · exact ⟨3, _, by decide, rfl, rfl⟩
def spLaw (K : PySem.W.Frag) : Sp := fun vs H Q _ => ∃ (a : Addr) (ns : List Int), vs = [.ref a] ∧ SqS K H a (ns.map V.int) ∧ ∀ H', Q (.bl true) H'
theorem c_law {fd : FuncData} (F : FunD K "law" "law" (defArgs s_law) (defBody s_law) (defScope s_law) [] [] (He.ga K "law") fd) (T : Fre mg) (c_l_dice : Cal P w K mg base 1 "_law_dice" ["_law_script"] (spDice K)) (c_l_next : Cal P w K mg base 1 "_law_next" ["_law_dice_here", "_law_many"] (spNext K))
    (c_l_fraction : Cal P w K mg base 2 "_law_fraction" ["_law_dice_here"] (spFraction K)) (c_l_refused : Cal P w K mg base 6 "_law_refused" ["_law_sign", "_law_one", "_law_two", "_law_way"] spRefused) (c_l_worked : Cal P w K mg base 2 "_law_worked" ["_law_sign", "_law_a", "_law_b"] (spLWorked K))
    (c_l_same : Cal P w K mg base 2 "_law_same" ["_law_found", "_law_due"] spSame) (c_worked : Cal P w K mg base 5 "worked" ["sign", "one", "two"] (spWorked K)) (c_l_by : Cal P w K mg base 5 "_law_by" ["_law_sign", "_law_one", "_law_two"] (spWorked K)) : FnOk P w K mg base (L2N.CX P w) 7 (He.ga K "law") fd ["_law_script"] (spLaw K) := by
  refine F.ok sc_law (fun vs H Q E h => ?_) (fun cdv A outer s H vs Q E hr h => ?_)
  · obtain ⟨a, ns, rfl, _⟩ := h
    rfl
  · obtain ⟨a, ns, rfl, hS, q⟩ := h
    have po := passes_of (X := cxOf (L2N.CX P w) P w K mg base ["_law_script", "_law_dice_here", "_law_sign", "_law_one", "_law_two", "_law_due", "_law_turn"] "law" (defScope s_law) (He.ga K "law") cdv A outer s H E) rfl
    have tk := L2N.takes_of (X := cxOf (L2N.CX P w) P w K mg base ["_law_script", "_law_dice_here", "_law_sign", "_law_one", "_law_two", "_law_due", "_law_turn"] "law" (defScope s_law) (He.ga K "law") cdv A outer s H E) (E := E) rfl rfl rfl rfl
    have pc := L2N.passes_call tk (fun _ _ _ _ h => h) (E := E)
    refine ⟨_, (pss_cons (ps_set (i := 1) sc_law.nd rfl (loc_of rfl) (pe_cal c_l_dice hr (by omega) pc (pa_cons (pv 0) pa_nil)))
      (pss_cons (ps_set (i := 2) sc_law.nd rfl (loc_of rfl) (pe_ix ix_str pe_str (pe_cal c_l_next hr (by omega) pc (pa_cons (pv 1) (pa_cons pe_int pa_nil))) (fun _ _ => rfl)))
      (pss_cons (ps_set (i := 3) sc_law.nd rfl (loc_of rfl) (pe_cal c_l_fraction hr (by omega) pc (pa_cons (pv 1) pa_nil)))
      (pss_cons (ps_set (i := 4) sc_law.nd rfl (loc_of rfl) (pe_cal c_l_fraction hr (by omega) pc (pa_cons (pv 1) pa_nil)))
      (Evl.pss_cut (ps_if (pt_cmpR op_eq (pe_cal c_l_next hr (by omega) pc (pa_cons (pv 1) (pa_cons pe_int pa_nil))) pe_int (nomark _)) (pss_one (ps_set (i := 4) sc_law.nd rfl (loc_of rfl) (pe_tup (pa_cons pe_int (pa_cons pe_int pa_nil))))) pss_nil)
      (Evl.pss_cut (ps_if (PW.pt (pw_and (pt_cmpR op_eq (pv 2) pe_str (nomark _)) (pw_and1 (pt_cmpR op_eq (pe_ix (ixT (K := K) rfl) (pv 4) pe_int (fun _ _ => rfl)) pe_int (nomark _))))) (pss_one (ps_ret (pe_and (pe_cal c_l_refused hr (by omega) pc (pa_cons (pv 2) (pa_cons (pv 3) (pa_cons (pv 4) (pa_cons pe_int pa_nil))))) (pe_one (pe_cal c_l_refused hr (by omega) pc (pa_cons (pv 2) (pa_cons (pv 3) (pa_cons (pv 4) (pa_cons pe_int pa_nil))))))))) pss_nil)
      (pss_cons (ps_set (i := 5) sc_law.nd rfl (loc_of rfl) (pe_cal c_l_worked hr (by omega) pc (pa_cons (pv 2) (pa_cons (pv 3) (pa_cons (pv 4) pa_nil)))))
      (pss_cons (ps_for po rfl (pi_range1 (by rfl) T.f_range (pa_cons pe_int pa_nil)) (pg_name (i := 6) sc_law.nd rfl (loc_of rfl)) (pss_one (ps_if (PW.pt (pw_or (pt_not (pt_val (pe_cal c_l_same hr (by omega) pc (pa_cons (pe_cal c_worked hr (by omega) pc (pa_cons (pv 2) (pa_cons (pv 3) (pa_cons (pv 4) pa_nil)))) (pa_cons (pv 5) pa_nil))))) (pw_or1 (pt_not (pt_val (pe_cal c_l_same hr (by omega) pc (pa_cons (pe_cal c_l_by hr (by omega) pc (pa_cons (pv 2) (pa_cons (pv 3) (pa_cons (pv 4) pa_nil)))) (pa_cons (pv 5) pa_nil)))))))) (pss_one (ps_ret pe_bl)) pss_nil)))
      (pss_one (ps_ret pe_bl)))))))))), ?_⟩
    refine w_start [some (.ref a), none, none, none, none, none, none] rfl ?_
    try dsimp only [cxOf]
    walk_at "wp"
    refine ⟨a, ns, rfl, hS, fun d H1 nd D1 s1 => ?_⟩
    walk_at "wp"
    refine ⟨d, 4, rfl, D1, by omega, by decide, fun r H2 r0 r1 D2 k2 => ?_⟩
    obtain ⟨i, ch, hi, hch, hsg⟩ := s4_at r r0 r1
    refine ⟨_, _, ch, rfl, rfl, by decide, hch, ?_⟩
    rw [hsg]
    walk_at "wp"
    refine ⟨d, rfl, D2, fun p t b H3 np npd f3 D3 k3 => ?_⟩
    walk_at "wp"
    refine ⟨d, rfl, D3, fun p2 t2 b2 H4 np2 npd2 f4 D4 k4 => ?_⟩
    have bp : (2 : Nat) ^ 200 < 2 ^ 4000 := by decide
    refine w_cut (fun σ' H' => ∃ (p2 : Addr) (t2 b2 : Int), σ' = [some (.ref a), some (.ref d), some (.str (S4 i)), some (.ref p), some (.ref p2), none, none] ∧ FrAt 4000 H' p t b ∧ FrAt 4000 H' p2 t2 b2) ?_ ?_
    · walk_at "wp"
      refine ⟨d, 9, rfl, D4, by omega, by decide, fun r5 H5 _ _ D5 k5 => ?_⟩
      have e3 : H5 p = some (.tup [.int t, .int b]) := at_keep k5 (at_keep k4 f3.1 npd) npd
      have e4 : H5 p2 = some (.tup [.int t2, .int b2]) := at_keep k5 f4.1 npd2
      have g3 : FrAt 4000 H5 p t b := ⟨e3, Nat.lt_trans f3.2.1 bp, f3.2.2.1, Nat.lt_trans f3.2.2.2 bp⟩
      walk_at "wp"
      refine w_dec (fun _ => ?_) (fun _ => ?_)
      · walk_at "wp"
        refine newT fun p6 H6 np6 e6 s6 => ?_
        walk_at "wp"
        exact ⟨p6, 0, 1, rfl, ⟨s6 _ _ e3, g3.2⟩, ⟨e6, by decide, by decide, by decide⟩⟩
      · walk_at "wp"
        exact ⟨p2, t2, b2, rfl, g3, ⟨e4, Nat.lt_trans f4.2.1 bp, f4.2.2.1, Nat.lt_trans f4.2.2.2 bp⟩⟩
    rintro _ H6 ⟨p2, t2, b2, rfl, ⟨x1, x2, x3, x4⟩, ⟨y1, y2, y3, y4⟩⟩
    refine w_cut (fun σ' H' => σ' = [some (.ref a), some (.ref d), some (.str (S4 i)), some (.ref p), some (.ref p2), none, none] ∧ H' = H6 ∧ (op4 i t b t2 b2).2 ≠ 0) ?_ ?_
    · walk_at "wp"
      refine w_dec (fun hs => ?_) (fun hs => ?_)
      · have h3 : i = 3 := by
          have hin : i = 0 ∨ i = 1 ∨ i = 2 ∨ i = 3 := by omega
          rcases hin with rfl | rfl | rfl | rfl
          · exact absurd hs (by decide)
          · exact absurd hs (by decide)
          · exact absurd hs (by decide)
          · rfl
        subst h3
        walk_at "wp"
        refine w_dec (fun h0 => ?_) (fun h0 => ?_)
        · subst h0
          walk_at "wp"
          refine ⟨p, p2, t, b, b2, 0, rfl, x1, y1, x2, x4, y4, fun H7 s7 => ?_⟩
          walk_at "wp"
          refine ⟨p, p2, t, b, b2, 1, rfl, s7 _ _ x1, s7 _ _ y1, x2, x4, y4, fun H8 s8 => ?_⟩
          exact q _
        · walk_at "wp"
          exact ⟨rfl, rfl, Int.mul_ne_zero (by omega) h0⟩
      · walk_at "wp"
        refine ⟨rfl, rfl, ?_⟩
        have hin : i = 0 ∨ i = 1 ∨ i = 2 ∨ i = 3 := by omega
        rcases hin with rfl | rfl | rfl | rfl
        · exact Int.mul_ne_zero (by omega) (by omega)
        · exact Int.mul_ne_zero (by omega) (by omega)
        · exact Int.mul_ne_zero (by omega) (by omega)
        · exact absurd rfl hs
    rintro _ _ ⟨rfl, rfl, h0⟩
    walk_at "wp"
    refine ⟨i, p, p2, t, b, t2, b2, hi, rfl, x1, y1, x2, x4, y2, y4, h0, fun pd H7 npd7 e7 s7 => ?_⟩
    walk_at "wp"
    refine forR1 (by decide) (by decide) (fun _ σ' H' => ∃ z, σ' = [some (.ref a), some (.ref d), some (.str (S4 i)), some (.ref p), some (.ref p2), some (.ref pd), z] ∧ Same H7 H') ⟨none, rfl, fun _ _ h => h⟩ (fun n σ' H8 hn h => ?_) (fun σ' H8 h => ?_)
    · obtain ⟨z, rfl, s8⟩ := h
      have x8 := s8 _ _ (s7 _ _ x1)
      have y8 := s8 _ _ (s7 _ _ y1)
      walk_at "wp"
      refine ⟨i, p, p2, hi, rfl, t, b, t2, b2, x8, y8, x2, x4, y2, y4, fun _ r9 H9 nr9 e9 s9 => ?_, fun h => absurd h h0⟩
      walk_at "wp"
      refine ⟨r9, pd, _, _, rfl, e9, s9 _ _ (s8 _ _ e7), ?_⟩
      walk_at "wp"
      refine ⟨i, p, p2, hi, rfl, t, b, t2, b2, s9 _ _ x8, s9 _ _ y8, x2, x4, y2, y4, fun _ r10 H10 nr10 e10 s10 => ?_, fun h => absurd h h0⟩
      walk_at "wp"
      refine ⟨r10, pd, _, _, rfl, e10, s10 _ _ (s9 _ _ (s8 _ _ e7)), ?_⟩
      walk_at "wp"
      exact ⟨_, rfl, s8.trans (s9.trans s10)⟩
    · walk_at "wp"
      exact q _
def exB (K : PySem.W.Frag) : Bool := refB K && worksB K
end
end Lw

set_option maxHeartbeats 0
namespace Lw
open PySem PySem.Spec PyProof.Rows L2 Fw Htx
/-! ### the head -/
abbrev R : PySem.W.OpenRow := PySem.W.OpenLaw.row PySem.Challenge.rw_slopesback_k02_four_signs
def dd (x : Str) (st : Stmt) : He.DefD := ⟨(x, none), x, x, defArgs st, defBody st, defScope st, [], []⟩
def md0 : He.DefD := ⟨("SlopeError", some "__init__"), "__init__", "SlopeError.__init__", defArgs s_SlopeError___init__, defBody s_SlopeError___init__, defScope s_SlopeError___init__, [.int 0], []⟩
def fn : List He.DefD := [dd "made" s_made, dd "added" s_added, dd "lessened" s_lessened, dd "multiplied" s_multiplied, dd "divided" s_divided, dd "worked" s_worked, dd "_law_dice" s_l_dice, dd "_law_next" s_l_next, dd "_law_whole" s_l_whole, dd "_law_is" s_l_is, dd "_law_same" s_l_same, dd "_law_cut" s_l_cut, dd "_law_worked" s_l_worked, dd "_law_fraction" s_l_fraction, dd "_law_by" s_l_by, dd "_law_refused" s_l_refused, dd "law" s_law, md0]
def fa : List He.Fa := [.glo "made", .glo "added", .glo "lessened", .glo "multiplied", .glo "divided", .glo "worked", .glo "_law_dice", .glo "_law_next", .glo "_law_whole", .glo "_law_is", .glo "_law_same", .glo "_law_cut", .glo "_law_worked", .glo "_law_fraction", .glo "_law_by", .glo "_law_refused", .glo "law", .free "len", .free "int", .free "bool", .free "abs", .free "tuple", .free "isinstance", .free "ValueError", .free "range"]
abbrev hk : PySem.W.Hook := He.hookX 6 fa fn [(fun K => He.ga K "WORKS", ["+", "-", "*", "/"])] [] exB
def ob (s : PySem.W.SharedT) : He.AlX := He.obsX 6 fa fn [(fun K => He.ga K "WORKS", ["+", "-", "*", "/"])] [] exB (HandSHeadRun.getT s)
theorem ob_eq (s : PySem.W.SharedT) : ob s = hk.obs s.abs := He.obsX_eq (HandSHeadRun.getT_eq s)
theorem run (w : World) : HandSHeadRun.RunEq R (PySem.W.view R.prog [31]) hk ob 6000 ["SlopeError", "BadText", "Unknown", "WrongSort", "WrongCount", "OutOfRow", "ByNought", "AtTurn", "TooGreat", "TooLong", "BadPoint", "made", "added", "lessened", "multiplied", "divided", "worked", "_law_dice", "_law_next", "_law_whole", "_law_is", "_law_same", "_law_cut", "_law_worked", "_law_fraction", "_law_by", "_law_refused", "WORKS"] w := by
  refine PySem.W.byRow2 "special-get-raises" (P := fun w => HandSHeadRun.RunEq R (PySem.W.view R.prog [31]) hk ob 6000 ["SlopeError", "BadText", "Unknown", "WrongSort", "WrongCount", "OutOfRow", "ByNought", "AtTurn", "TooGreat", "TooLong", "BadPoint", "made", "added", "lessened", "multiplied", "divided", "worked", "_law_dice", "_law_next", "_law_whole", "_law_is", "_law_same", "_law_cut", "_law_worked", "_law_fraction", "_law_by", "_law_refused", "WORKS"] w) (fun w os => ?_) (fun w os => ?_) w
  · kernel_rfl
  · kernel_rfl
theorem facts {P : Program} {w : World} {K : PySem.W.Frag} {h : Heap} {mg : Str → Option Value} {f : Addr} (X : K.In h) (G : h.Ns mainGlobals mg) (hfa : mg ("law" : Str) = some (.ref f)) (cx : He.SaysX fa fn [(fun K => He.ga K "WORKS", ["+", "-", "*", "/"])] [] exB w h K) :
    ∃ fd : FuncData, (∀ (s : Shared) (v : Value), BindsTo s fd ⟨[v], []⟩ [("_law_script", v)]) ∧ ∀ base : Heap, K.In base → base.Ns mainGlobals mg → FnOk P w K mg base (L2N.CX P w) 7 f fd ["_law_script"] (spLaw K) := by
  have c := cx.t.d
  have hex := cx.more
  have df : ∀ (i : Nat) (x : Str) (st : Stmt), fn[i]? = some (dd x st) → fa[i]? = some (.glo x) → Def K mg x st := fun i x st h1 h2 => ⟨c.def_ i h1, He.glo_ok X G (c.fact i h2)⟩
  have T : Fre mg := ⟨He.free_ok X G (c.fact 17), He.free_ok X G (c.fact 18), He.free_ok X G (c.fact 19), He.free_ok X G (c.fact 20), He.free_ok X G (c.fact 21), He.free_ok X G (c.fact 22), He.free_ok X G (c.fact 23), He.free_ok X G (c.fact 24)⟩
  have F_made : Def K mg "made" s_made := df 0 _ _ rfl rfl
  have F_added : Def K mg "added" s_added := df 1 _ _ rfl rfl
  have F_lessened : Def K mg "lessened" s_lessened := df 2 _ _ rfl rfl
  have F_multiplied : Def K mg "multiplied" s_multiplied := df 3 _ _ rfl rfl
  have F_divided : Def K mg "divided" s_divided := df 4 _ _ rfl rfl
  have F_worked : Def K mg "worked" s_worked := df 5 _ _ rfl rfl
  have F_l_dice : Def K mg "_law_dice" s_l_dice := df 6 _ _ rfl rfl
  have F_l_next : Def K mg "_law_next" s_l_next := df 7 _ _ rfl rfl
  have F_l_whole : Def K mg "_law_whole" s_l_whole := df 8 _ _ rfl rfl
  have F_l_is : Def K mg "_law_is" s_l_is := df 9 _ _ rfl rfl
  have F_l_same : Def K mg "_law_same" s_l_same := df 10 _ _ rfl rfl
  have F_l_cut : Def K mg "_law_cut" s_l_cut := df 11 _ _ rfl rfl
  have F_l_worked : Def K mg "_law_worked" s_l_worked := df 12 _ _ rfl rfl
  have F_l_fraction : Def K mg "_law_fraction" s_l_fraction := df 13 _ _ rfl rfl
  have F_l_by : Def K mg "_law_by" s_l_by := df 14 _ _ rfl rfl
  have F_l_refused : Def K mg "_law_refused" s_l_refused := df 15 _ _ rfl rfl
  have F_law : Def K mg "law" s_law := df 16 _ _ rfl rfl
  obtain ⟨⟨fd, F⟩, g⟩ := id F_law
  have e := hfa.symm.trans g
  cases e
  have b := FunD.bindsA (ps := ["_law_script"]) F b_law
  refine ⟨fd, fun s v => b s [v] rfl, fun base _ _ => ?_⟩
  obtain ⟨hexR, hexW⟩ := Bool.and_eq_true_iff.mp hex
  obtain ⟨R, ty⟩ := refB_ok X G hexR
  obtain ⟨gW, wk⟩ := worksB_ok (w := w) X G hexW (cx.t.tab 0)
  have ini : IniD K := c.def_ 17 (d := md0) rfl
  have k1 := c_made (P := P) (w := w) (base := base) F_made T (R.z 5 (by decide)) (ini1_of ini T ty)
  have ka := c_added F_added k1
  have kl := c_lessened F_lessened k1
  have km := c_multiplied F_multiplied k1
  have kd := c_divided F_divided k1
  have kw := c_worked F_worked gW wk (s4_ok (calA ka F_added) (calA kl F_lessened) (calA km F_multiplied) (calA kd F_divided))
  have kb := c_l_by F_l_by ka kl km kd
  have kn := c_l_next (P := P) (w := w) (base := base) F_l_next T
  have kc := c_l_cut (P := P) (w := w) (base := base) F_l_cut T
  exact c_law F T (c_l_dice F_l_dice T) kn (c_l_fraction F_l_fraction T kn kc) (c_l_refused F_l_refused R kw kb (x_l_whole F_l_whole T) (x_l_is F_l_is T R)) (c_l_worked F_l_worked kc) (c_l_same F_l_same T (c_l_whole F_l_whole T)) kw kb
end Lw
open PySem PySem.W PySem.Calls PyProof.Rows
theorem PySem.Challenge.cw_slopesback_k02_four_signs_holds : PySem.Challenge.rw_slopesback_k02_four_signs.Holds := by
  w_on; o_law
  refine HandSHeadRun.head_any (r := OpenLaw.row PySem.Challenge.rw_slopesback_k02_four_signs) (q := view (OpenLaw.row PySem.Challenge.rw_slopesback_k02_four_signs).prog [31]) (H := Lw.hk) (ob := Lw.ob) (M := 6000) (loose := ["SlopeError", "BadText", "Unknown", "WrongSort", "WrongCount", "OutOfRow", "ByNought", "AtTurn", "TooGreat", "TooLong", "BadPoint", "made", "added", "lessened", "multiplied", "divided", "worked", "_law_dice", "_law_next", "_law_whole", "_law_is", "_law_same", "_law_cut", "_law_worked", "_law_fraction", "_law_by", "_law_refused", "WORKS"]) (d := HandSHeadRun.topDef (OpenLaw.row PySem.Challenge.rw_slopesback_k02_four_signs).prog 31) (kwd := []) Lw.ob_eq
    (by kernel_rfl) (fun s => by kernel_rfl) Lw.run (by kernel_rfl) (by kernel_rfl) (by kernel_rfl) (by rfl) (by first | assumption | decide +kernel) (by decide +kernel) ⟨rfl, rfl, rfl, rfl, rfl, by decide +kernel⟩ ?hw ?hc
  case hw => w_witness2
  case hc =>
    refine Fw.walk_ofEB (l := PySem.Challenge.rw_slopesback_k02_four_signs) (n := 63) (k := 7) (x := "_law_script") (CX := fun w => L2N.CX (PySem.Challenge.rw_slopesback_k02_four_signs).prog w) rfl (by decide) (by kernel_rfl) ⟨rfl, by decide, by decide⟩ ?F (fun w H s e s' z => ?X)
    case X =>
      obtain ⟨_, _, _, _, _, _, _, _, _, _, _, _, z⟩ := z
      exact z
    intro w mg fa h Y G hmg0
    obtain ⟨K, KX, c⟩ := Y
    have hmg : mg ("law" : PySem.Str) = some (.ref fa) := by
      have e : (HandSHeadRun.topDef (OpenLaw.row PySem.Challenge.rw_slopesback_k02_four_signs).prog 31).name = ("law" : PySem.Str) := by kernel_rfl
      rw [← e]
      exact hmg0
    obtain ⟨fd, hb, hF⟩ := Lw.facts (P := (PySem.Challenge.rw_slopesback_k02_four_signs).prog) (w := w) KX G hmg c
    exact ⟨K, fd, Lw.spLaw K, KX, hb, fun H a ns hl _ hO hS => ⟨a, ns, rfl, Lw.SqS.of hO hS, fun _ => rfl⟩, hF⟩
#print axioms PySem.Challenge.cw_slopesback_k02_four_signs_holds
